import PyProof.Rows.All
import HandS.Dict
import HandS.Iter
import KE.KeyNested
import KE.KDictDisplayH
import HandS.ForExc
import HandS.Comp
import HandS.IsInst
import HandS.NestedK
import KE.SortData
import HandS.TupAny
import HandS.TupMul
import HandS.Deep
import HandS.Strs
import HandS.Style
import HandS.SetFor
import HandS.List
import HandS.SortOrd
import HandS.WordsExc
import HandS.ExcOwn
import PyProof.ExcBaseAll.ValueError
import HandS.Ends
import PyProof.FactsAll.list_3
import HandS.Conv
import KE.DataMinMax
import HandS.TryOnly
import HandS.ExcIs
import HandS.Gcd
import KE.DataCmp
import HandS.DictComp
import HandS.Codes
import HandS.EndTab
import HandS.Zip
import Wide.All
import OpenK.AllK
import Wide.FinOn
import PySem.Challenge.RW_placewords_k30_actions
set_option Elab.async false
set_option linter.all false
set_option maxRecDepth 100000
/-! AbT: tables over all laws: attributes of classes, methods (printed by gen.py) -/
namespace Ab
def CF : Nat → List Nat
  | 0 => [0, 1]  -- Alphabet
  | 1 => [1, 2, 3, 4]  -- Automaton
  | 2 => [5, 6, 7]  -- Copies
  | 3 => [13, 14]  -- Grid
  | 4 => [15, 16]  -- Parser
  | 5 => [19, 20, 21]  -- Known
  | 6 => [22]  -- News
  | 7 => [22, 5]  -- Machines
  | 8 => [26, 27, 28, 29, 30, 31]  -- Player
  | 9 => [22, 36, 37, 38, 3]  -- Team
  | 10 => [26, 39]  -- Ledger
  | 11 => [26, 42, 43]  -- History
  | 12 => [47, 48, 49, 50, 51]  -- Seat
  | 13 => [26, 27, 52]  -- Hall
  | 14 => [22, 36, 37, 38, 3]  -- ChoiceTeam
  | 15 => [56, 57, 58]  -- World
  | 16 => [61, 62, 46]  -- Orders
  | 17 => [0, 64]  -- Chart
  | 18 => [65, 63, 66]  -- Matching
  | _ => []
def MTD : Nat → Nat → Option Nat
  | 2, 8 => some 78  -- Copies.can_end
  | 2, 9 => some 79  -- Copies.ends
  | 2, 11 => some 81  -- Copies.is_hopeful
  | 2, 12 => some 82  -- Copies.step
  | 2, 10 => some 80  -- Copies.tidy
  | 4, 17 => some 91  -- Parser.skip
  | 4, 18 => some 92  -- Parser.take
  | 5, 23 => some 97  -- Known.flat
  | 6, 24 => some 106  -- News.compare
  | 6, 68 => some 241  -- News.meet
  | 6, 2 => some 105  -- News.start
  | 7, 25 => some 111  -- Machines.parted
  | 7, 2 => some 245  -- Machines.start
  | 8, 35 => some 120  -- Player.happened
  | 8, 33 => some 118  -- Player.is_done
  | 8, 34 => some 119  -- Player.is_stuck
  | 8, 32 => some 117  -- Player.ready
  | 10, 40 => some 144  -- Ledger.happen
  | 10, 41 => some 145  -- Ledger.known
  | 11, 46 => some 182  -- History.events
  | 11, 40 => some 179  -- History.happen
  | 11, 44 => some 180  -- History.must_undo
  | 11, 45 => some 181  -- History.undo
  | 11, 70 => some 255  -- History.word
  | 12, 54 => some 190  -- Seat.event_at
  | 12, 53 => some 189  -- Seat.next_letter
  | 13, 55 => some 194  -- Hall._offers_for
  | 13, 33 => some 193  -- Hall.is_done
  | 13, 48 => some 192  -- Hall.position
  | 13, 49 => some 191  -- Hall.state
  | 15, 60 => some 214  -- World.reached
  | 15, 59 => some 213  -- World.seen
  | 16, 63 => some 219  -- Orders.following
  | 18, 71 => some 277  -- Matching.apart
  | 18, 67 => some 232  -- Matching.change
  | 18, 69 => some 251  -- Matching.grow
  | 18, 4 => some 233  -- Matching.rows
  | _, _ => none
def fldIx (c k : Nat) : Option Nat := (CF c).findIdx? (· == k)
end Ab
/-! AbN: dicts with nested tuples of numbers as keys, over HandS -/
namespace Ab
open PySem L2 PySem.Spec PyProof.Rows
abbrev NK := PySem.NestedKey
mutual
def numK : NK → Bool
  | .none => true
  | .num _ => true
  | .text _ => false
  | .tup ks => numKs ks
def numKs : List NK → Bool
  | [] => true
  | k :: ks => numK k && numKs ks
end
mutual
theorem hash_num (w w' : World) : ∀ k : NK, numK k = true → k.hash w = k.hash w'
  | .none, _ => rfl
  | .num _, _ => rfl
  | .text _, h => by cases h
  | .tup ks, h => by rw [PySem.NestedKey.hash, PySem.NestedKey.hash, hashes_num w w' ks h]
theorem hashes_num (w w' : World) : ∀ ks : List NK, numKs ks = true → PySem.NestedKey.hashes w ks = PySem.NestedKey.hashes w' ks
  | [], _ => rfl
  | k :: ks, h => by
    rw [numKs, Bool.and_eq_true] at h
    rw [PySem.NestedKey.hashes, PySem.NestedKey.hashes, hash_num w w' k h.1, hashes_num w w' ks h.2]
end
def ent (w : World) (x : NK × Addr × Value) : DictEntry := ⟨x.1.hash w, .ref x.2.1, x.2.2⟩
def KX : List (NK × V) → List (NK × Addr × Value) → Prop := Paired fun p q => p.1 = q.1 ∧ RelV p.2 q.2.2
def DX (a : Addr) (kvs : List (NK × V)) (bs : List V) : Heap → Prop := fun h => kvs.length ≤ sizeLine ∧ (a == sysModules) = false ∧ (∀ p, p ∈ kvs → numK p.1 = true) ∧ ∃ xs, KX kvs xs ∧ bs = xs.map (fun x => V.ref x.2.1) ∧
  ∃ o es ep, h.get? a = some o ∧ o.ExactDict ∧ o.data = .dict es ep ∧ (∀ w, es.toList = xs.map (ent w)) ∧ (xs.map (·.1)).Nodup
theorem dx_stay {a : Addr} {kvs : List (NK × V)} {bs : List V} {h1 h2 : Heap} (x : DX a kvs bs h1) (k : ∀ o, h1.get? a = some o → h2.get? a = some o) : DX a kvs bs h2 := by
  obtain ⟨z, y, n, xs, r, e, o, es, ep, ho, q⟩ := x
  exact ⟨z, y, n, xs, r, e, o, es, ep, k _ ho, q⟩
theorem dx_obj {P : Program} {w : World} {H : Hp} {h : Heap} {a : Addr} {kvs : List (NK × V)} {bs : List V} (x : DX a kvs bs h) : ObjOk P w H h a (.ext (DX a kvs bs)) :=
  ⟨x, (let ⟨_, _, _, _, _, _, o, _, _, ho, _⟩ := x; ⟨o, ho⟩), fun _ _ p k => dx_stay p k⟩
mutual
/-- the value v is the key k -/
def KN (H : Hp) : NK → V → Prop
  | .none, v => v = .non
  | .num i, v => v = .int i
  | .text x, v => v = .str x
  | .tup ks, v => ∃ q ws, v = .ref q ∧ H q = some (.tup ws) ∧ KNs H ks ws
def KNs (H : Hp) : List NK → List V → Prop
  | [], vs => vs = []
  | k :: ks, vs => ∃ v r, vs = v :: r ∧ KN H k v ∧ KNs H ks r
end
mutual
theorem KN.keep {H H' : Hp} (ht : ∀ b ys, H b = some (.tup ys) → H' b = some (.tup ys)) : ∀ (k : NK) {v : V}, KN H k v → KN H' k v
  | .none, v, h => by simpa only [KN] using h
  | .num i, v, h => by simpa only [KN] using h
  | .text x, v, h => by simpa only [KN] using h
  | .tup ks, v, h => by
    simp only [KN] at h ⊢
    obtain ⟨q, ws, e, hq, h⟩ := h
    exact ⟨q, ws, e, ht _ _ hq, KNs.keep ht ks h⟩
theorem KNs.keep {H H' : Hp} (ht : ∀ b ys, H b = some (.tup ys) → H' b = some (.tup ys)) : ∀ (ks : List NK) {vs : List V}, KNs H ks vs → KNs H' ks vs
  | [], vs, h => by simpa only [KNs] using h
  | k :: ks, vs, h => by
    simp only [KNs] at h ⊢
    obtain ⟨v, r, e, h1, h2⟩ := h
    exact ⟨v, r, e, KN.keep ht k h1, KNs.keep ht ks h2⟩
end
section
variable {P : Program} {w : World} {H : Hp} {h : Heap}
mutual
theorem KN.is (ok : HOk P w H h) : ∀ (k : NK) {v : V} {u : Value}, KN H k v → RelV v u → NestedIs h k u
  | .none, v, u, hk, r => by
    simp only [KN] at hk
    subst hk
    obtain rfl : u = Value.none := r
    exact .none
  | .num i, v, u, hk, r => by
    simp only [KN] at hk
    subst hk
    obtain ⟨t, rfl⟩ := (show ∃ t, u = Value.int i t from r)
    exact .int i t
  | .text x, v, u, hk, r => by
    simp only [KN] at hk
    subst hk
    obtain ⟨t, rfl⟩ := (show ∃ t, u = Value.str x t from r)
    exact .text x t
  | .tup ks, v, u, hk, r => by
    simp only [KN] at hk
    obtain ⟨q, ws, rfl, hq, hk⟩ := hk
    obtain rfl : u = Value.ref q := r
    obtain ⟨_, its, rv, o, h1, h2, n, h3⟩ := (show ObjOk P w H h q (.tup ws) from ok q _ hq)
    exact .tup h1 h2 h3 (KNs.is ok ks hk (by simpa using rv))
theorem KNs.is (ok : HOk P w H h) : ∀ (ks : List NK) {vs : List V} {us : List Value}, KNs H ks vs → Vals vs us → NestedAll h ks us
  | [], vs, us, hk, r => by
    simp only [KNs] at hk
    subst hk
    cases r
    exact .nil
  | k :: ks, vs, us, hk, r => by
    simp only [KNs] at hk
    obtain ⟨v, rr, rfl, h1, h2⟩ := hk
    cases r with
    | cons r1 r2 => exact .cons (KN.is ok k h1 r1) (KNs.is ok ks h2 r2)
end
/-- the keys' own tuples -/
def KB (H : Hp) : List (NK × V) → List V → Prop := Paired fun p b => KN H p.1 b ∧ p.1.depth ≤ 8
theorem KB.keep {H H' : Hp} (ht : ∀ b ys, H b = some (.tup ys) → H' b = some (.tup ys)) {kvs : List (NK × V)} {bs : List V} (h : KB H kvs bs) : KB H' kvs bs :=
  Paired.mapP h fun _ _ z => ⟨KN.keep ht _ z.1, z.2⟩
theorem dx_rd {a : Addr} {kvs : List (NK × V)} {bs : List V} (ok : HOk P w H h) (e : Rd H a (.ext (DX a kvs bs))) (kb : KB H kvs bs) :
    kvs.length ≤ sizeLine ∧ (a == sysModules) = false ∧ (∀ p, p ∈ kvs → numK p.1 = true) ∧ ∃ xs, KX kvs xs ∧ bs = xs.map (fun x => V.ref x.2.1) ∧ h.DictOfH (nestedKind P w) a xs := by
  obtain ⟨⟨z, y, n, xs, r, eb, o, es, ep, h1, h2, h3, h4, h5⟩, _, _⟩ := (show ObjOk P w H h a (.ext (DX a kvs bs)) from rd_of ok e)
  refine ⟨z, y, n, xs, r, eb, o, es, ep, h1, h2, h3, h4 w, fun x hx => ?_, h5⟩
  have all : ∀ {l : List (NK × V)} {m : List (NK × Addr × Value)}, KX l m → KB H l (m.map fun x => V.ref x.2.1) → ∀ x ∈ m, (nestedKind P w).is h x.1 x.2.1 := by
    intro l m q
    induction q with
    | nil => intro _ x hx; exact nomatch hx
    | @cons p q ps qs hq t ih =>
      intro kb x hx
      cases kb with
      | cons k1 k2 =>
        rcases List.mem_cons.mp hx with e | hx
        · subst e
          rw [← hq.1]
          exact ⟨KN.is ok _ k1.1 rfl, k1.2⟩
        · exact ih k2 x hx
  exact all r (by rw [← eb]; exact kb) x hx
theorem KX.val {kvs : List (NK × V)} {xs : List (NK × Addr × Value)} (r : KX kvs xs) (k : NK) : RelO (valV kvs k) ((atKey xs k).map (·.2)) := by
  induction r with
  | nil => exact True.intro
  | @cons p q ps qs h t ih =>
    obtain ⟨h1, h2⟩ := h
    by_cases e : p.1 = k
    · have e' : q.1 = k := h1.symm.trans e
      have b : atKey (q :: qs) k = some q.2 := by simp [atKey, List.find?_cons, e']
      rw [valV_pos e, b]; exact h2
    · have e' : ¬ q.1 = k := fun z => e (h1.trans z)
      have b : atKey (q :: qs) k = atKey qs k := by simp [atKey, List.find?_cons, e']
      rw [valV_neg e, b]; exact ih
theorem KX.repl {kvs : List (NK × V)} {xs : List (NK × Addr × Value)} (r : KX kvs xs) (k : NK) {y : V} {u : Value} (ry : RelV y u) :
    KX (kvs.map fun kv => if kv.1 = k then (kv.1, y) else kv) (xs.map (putAt k u)) := by
  induction r with
  | nil => exact .nil
  | @cons p q ps qs h t ih =>
    rw [List.map_cons, List.map_cons]
    refine .cons ?_ ih
    obtain ⟨h1, h3⟩ := h
    unfold putAt
    by_cases e : p.1 = k
    · rw [if_pos e, if_pos (h1.symm.trans e)]; exact ⟨h1, ry⟩
    · rw [if_neg e, if_neg (fun z => e (h1.trans z))]; exact ⟨h1, h3⟩
theorem KX.has {kvs : List (NK × V)} {xs : List (NK × Addr × Value)} (r : KX kvs xs) (k : NK) : (atKey xs k).isSome = (valV kvs k).isSome := by
  rw [(r.val k).isSome_eq, Option.isSome_map]
theorem KX.put {kvs : List (NK × V)} {xs : List (NK × Addr × Value)} (r : KX kvs xs) (k : NK) {b : Addr} {y : V} {u : Value} (ry : RelV y u) : KX (putK kvs k y) (storedH xs k b u) := by
  have e : (kvs.any fun kv => decide (kv.1 = k)) = (atKey xs k).isSome := by rw [valV_any, r.has]
  unfold putK storedH
  rw [e]
  by_cases q : (atKey xs k).isSome = true
  · rw [if_pos q, if_pos q]; exact r.repl k ry
  · rw [if_neg q, if_neg q]; exact Paired.snoc r ⟨rfl, ry⟩
/-- the keys' tuples behind a store -/
def putB (kvs : List (NK × V)) (bs : List V) (k : NK) (y : V) : List V := if (valV kvs k).isSome then bs else bs ++ [y]
theorem KX.putB {kvs : List (NK × V)} {xs : List (NK × Addr × Value)} (r : KX kvs xs) (k : NK) (b : Addr) (u : Value) : putB kvs (xs.map fun x => V.ref x.2.1) k (.ref b) = (storedH xs k b u).map fun x => V.ref x.2.1 := by
  unfold Ab.putB storedH
  rw [r.has]
  by_cases q : (valV kvs k).isSome = true
  · rw [if_pos q, if_pos q, List.map_map]
    refine List.map_congr_left fun x _ => ?_
    show _ = V.ref (putAt k u x).2.1
    unfold putAt
    split <;> rfl
  · rw [if_neg q, if_neg q, List.map_append]; rfl
theorem num_putK {kvs : List (NK × V)} {k : NK} {v : V} (h : ∀ p, p ∈ kvs → numK p.1 = true) (hk : numK k = true) : ∀ p, p ∈ putK kvs k v → numK p.1 = true := fun p hp => by
  unfold putK at hp
  split at hp
  · obtain ⟨q, hq, rfl⟩ := List.mem_map.mp hp
    split
    · exact h q hq
    · exact h q hq
  · rcases List.mem_append.mp hp with hp | hp
    · exact h p hp
    · rw [List.mem_singleton.mp hp]; exact hk
theorem num_xs {kvs : List (NK × V)} {xs : List (NK × Addr × Value)} (r : KX kvs xs) (h : ∀ p, p ∈ kvs → numK p.1 = true) : ∀ x, x ∈ xs → numK x.1 = true := by
  induction r with
  | nil => intro x hx; exact nomatch hx
  | @cons p q ps qs hq t ih =>
    intro x hx
    rcases List.mem_cons.mp hx with e | hx
    · subst e; rw [← hq.1]; exact h p (by simp)
    · exact ih (fun p hp => h p (List.mem_cons_of_mem _ hp)) x hx
theorem ent_num {xs : List (NK × Addr × Value)} (h : ∀ x, x ∈ xs → numK x.1 = true) (w w' : World) : xs.map (ent w) = xs.map (ent w') :=
  List.map_congr_left fun x hx => by rw [ent, ent, hash_num w w' _ (h x hx)]
end
/-- what the dict at a holds at the key y -/
def NGet (H : Hp) (a : Addr) (y : V) (r : Option V) : Prop := ∃ kvs bs k q, Rd H a (.ext (DX a kvs bs)) ∧ KB H kvs bs ∧ y = .ref q ∧ KN H k y ∧ k.depth ≤ 8 ∧ r = valV kvs k
def NPut (H : Hp) (a : Addr) (y v : V) (H' : Hp) : Prop := ∃ kvs bs k q, H a = some (.ext (DX a kvs bs)) ∧ KB H kvs bs ∧ y = .ref q ∧ KN H k y ∧ k.depth ≤ 8 ∧ numK k = true ∧ kvs.length < sizeLine ∧ H' = upd H a (.ext (DX a (putK kvs k v) (putB kvs bs k y)))
def GetA (H : Hp) (a : Addr) (y : V) (r : Option V) : Prop := DGet H a y r ∨ NGet H a y r
def PutA (H : Hp) (a : Addr) (y v : V) (H' : Hp) : Prop := DPut H a y v H' ∨ NPut H a y v H'
section
variable {X : Cx} {pins : List (Addr × Obj)} {σ : L2.St} {H : Hp} {s : Shared} {a : Addr} {y v d : V} {u r : Value} {o : Option V} {A : Around} {E : Value → Shared → Prop}
theorem n_room (hu : A.units + 20 < cLine) : A.in1.units + 8 < cLine := by
  have : A.in1.units = A.units + 1 := rfl
  omega
theorem a_getItem {Q : Value → Shared → Prop} (hu : A.units + 20 < cLine) (I : Inv X pins σ H s) (g : GetA H a y (some v)) (ry : RelV y u) (h : ∀ w' s', Inv X pins σ H s' → RelV v w' → Q w' s') :
    wpAny (model X.prog X.w) A (getItem (.ref a) u) Q E s := by
  rcases g with g | ⟨kvs, bs, k, q, e, kb, ey, kn, dp, l⟩
  · exact d_getItem (by omega) I g ry h
  · subst ey
    cases (show u = Value.ref q from ry)
    obtain ⟨z, hd, _, xs, rel, _, dd⟩ := dx_rd I.hok e kb
    obtain ⟨w', hw, rw'⟩ := RelO.some_of (v := v) (o := (atKey xs k).map (·.2)) (by rw [l]; exact rel.val k)
    obtain ⟨p, hp, hp2⟩ := Option.map_eq_some_iff.mp hw
    refine wpAny_getItem_heap (knd := nestedKind X.prog X.w) (n_room hu) ⟨KN.is I.hok k kn rfl, dp⟩ dd hp ?_
    rw [hp2]
    exact h w' _ (I.tok _) rw'
theorem a_in {Q : Value → Shared → Prop} (hu : A.units + 20 < cLine) (I : Inv X pins σ H s) (g : GetA H a y o) (ry : RelV y u) (h : ∀ s', Inv X pins σ H s' → Q (.bool o.isSome) s') :
    wpAny (model X.prog X.w) A (compareOp .In u (.ref a)) Q E s := by
  rcases g with g | ⟨kvs, bs, k, q, e, kb, ey, kn, dp, l⟩
  · exact d_in (by omega) I g ry h
  · subst ey
    cases (show u = Value.ref q from ry)
    obtain ⟨z, hd, _, xs, rel, _, dd⟩ := dx_rd I.hok e kb
    refine wpAny_in_heap (knd := nestedKind X.prog X.w) (n_room hu) ⟨KN.is I.hok k kn rfl, dp⟩ hd dd ?_
    rw [rel.has, ← l]
    exact h _ (I.tok _)
theorem a_notIn {Q : Value → Shared → Prop} (hu : A.units + 20 < cLine) (I : Inv X pins σ H s) (g : GetA H a y o) (ry : RelV y u) (h : ∀ s', Inv X pins σ H s' → Q (.bool (!o.isSome)) s') :
    wpAny (model X.prog X.w) A (compareOp .NotIn u (.ref a)) Q E s := by
  rcases g with g | ⟨kvs, bs, k, q, e, kb, ey, kn, dp, l⟩
  · exact d_notIn (by omega) I g ry h
  · subst ey
    cases (show u = Value.ref q from ry)
    obtain ⟨z, hd, _, xs, rel, _, dd⟩ := dx_rd I.hok e kb
    refine wpAny_notIn_heap (knd := nestedKind X.prog X.w) (n_room hu) ⟨KN.is I.hok k kn rfl, dp⟩ hd dd ?_
    rw [rel.has, ← l]
    exact h _ (I.tok _)
theorem a_setItem {H' : Hp} {Q : Unit → Shared → Prop} (hu : A.units + 20 < cLine) (I : Inv X pins σ H s) (g : PutA H a y v H') (ry : RelV y u) (rv : RelV v r) (h : ∀ s', Inv X pins σ H' s' → Q () s') :
    wpAny (model X.prog X.w) A (setItem (.ref a) u r) Q E s := by
  rcases g with g | ⟨kvs, bs, k, q, e, kb, ey, kn, dp, nk, l, eH⟩
  · exact d_setItem (by omega) I g ry rv h
  · subst ey eH
    cases (show u = Value.ref q from ry)
    obtain ⟨z, hd, hn, xs, rel, eb, dd⟩ := dx_rd I.hok (.inl e) kb
    have hz : xs.length ≤ sizeLine := by rw [← Paired.length rel]; exact z
    have hl : (putK kvs k v).length ≤ sizeLine := by have := length_putK kvs k v; omega
    refine wpAny_setItem_heap (knd := nestedKind X.prog X.w) (hsz := hz) (n_room hu) ⟨KN.is I.hok k kn rfl, dp⟩ dd fun h' dd' hs => h _ ?_
    obtain ⟨ob, es, ep, hq, h2, h3, h4, _, h5⟩ := dd'
    have hn' := num_putK (v := v) hn nk
    have rel' := rel.put k (b := q) rv
    have hx := num_xs rel' hn'
    refine d_write I (by rw [e]; exact True.intro) hs ⟨ob, hq⟩ (dx_obj ⟨hl, hd, hn', _, rel', ?_, ob, es, ep, hq, h2, h3, fun w => ?_, h5⟩)
    · rw [eb]; exact rel.putB k q r
    · rw [ent_num hx w X.w]; exact h4
theorem a_typeIs (I : Inv X pins σ H s) (g : GetA H a y o) : s.TypeIs (.ref a) "dict" := by
  rcases g with g | ⟨kvs, bs, k, q, e, kb, ey, kn, dp, l⟩
  · exact dict_typeIs I g
  · obtain ⟨_, _, _, xs, _, _, dd⟩ := dx_rd (P := X.prog) (w := X.w) I.hok e kb
    exact dd.typeIs
end
def tAGet (td ty : TE) : TE := fun σ H Q => td σ H fun x H1 => ty σ H1 fun y H2 => ∃ a v, x = .ref a ∧ GetA H2 a y (some v) ∧ Q v H2
def sAPut (td ty tv : TE) : TS := fun D σ H => tv σ H fun v H1 => td σ H1 fun x H2 => ty σ H2 fun y H3 => ∃ a H4, x = .ref a ∧ PutA H3 a y v H4 ∧ D.nx σ H4
/-- {k: v} with a nested key -/
def tDispX (tk tv : TE) : TE := fun σ H Q => ∀ p, H p = none → tPairs [(tk, tv)] σ (upd H p (.ext (DX p [] []))) fun ps H2 => ∃ b k y, ps = [(.ref b, y)] ∧ KN H2 k (.ref b) ∧ k.depth ≤ 8 ∧ numK k = true ∧ H2 p = some (.ext (DX p [] [])) ∧ Q (.ref p) (upd H2 p (.ext (DX p [(k, y)] [.ref b])))
def tNewX : TE := fun _ H Q => ∀ p, H p = none → Q (.ref p) (upd H p (.ext (DX p [] [])))
theorem dx_empty {P : Program} {w : World} {H : Hp} (h : Heap) (hb : sysModules < h.objs.size) : ObjOk P w H (h.push { cls := .type "dict", data := .dict #[] }) h.objs.size (.ext (DX h.objs.size [] [])) :=
  dx_obj ⟨Nat.zero_le _, beq_eq_false_iff_ne.mpr (Ne.symm (Nat.ne_of_lt hb)), by simp, [], .nil, rfl, _, #[], 0, Heap.get?_push_size _ rfl, ⟨rfl, rfl, rfl⟩, rfl, fun _ => rfl, List.nodup_nil⟩
section
variable {X : Cx} {o i e f value k v : Expr} {pos pos' apos cpos : Pos} {td ty tv tx tk : TE}
theorem pe_aget (hu : X.A.units + 20 < cLine) (ho : PE X o td) (hi : PE X i ty) (hs : NoSl i) : PE X (.Subscript o i pos) (tAGet td ty) := by
  refine ⟨fun pins s σ H Q I h => ?_⟩
  refine subD_of PySem.F.slot_dict_getitem.lookup hs (thn (ho.run pins s σ H _ I h) fun u s1 ⟨x, H1, I1, rx, q1⟩ => thn (hi.run pins s1 σ H1 _ I1 q1) fun iv s2 ⟨y, H2, I2, ry, a, v, ex, g, q2⟩ => ?_)
  subst ex
  obtain rfl : u = Value.ref a := rx
  exact ⟨a_typeIs I2 g, a_getItem hu I2 g ry fun w' s3 I3 rw' => ⟨v, H2, I3, rw', q2⟩⟩
theorem ps_aput (hu : X.A.units + 20 < cLine) (ho : PE X o td) (hi : PE X i ty) (hv : PE X value tv) (hs : swapsWith value (some (.Subscript o i pos')) pos.line X.env = pure false) :
    PS X (.Assign [.Subscript o i pos'] value pos) (sAPut td ty tv) := by
  refine ⟨fun pins s σ H D I h => ?_⟩
  refine wpAny_Assign_Subscript (thn (hv.run pins s σ H _ I h) fun r s1 ⟨v, H1, I1, rv, q1⟩ => thn (ho.run pins s1 σ H1 _ I1 q1) fun u s2 ⟨x, H2, I2, rx, q2⟩ => thn (hi.run pins s2 σ H2 _ I2 q2) fun iv s3 ⟨y, H3, I3, ry, a, H4, ex, g, q3⟩ => ?_) hs
  subst ex
  obtain rfl : u = Value.ref a := rx
  exact a_setItem hu I3 g ry rv fun s4 I4 => ⟨σ, H4, I4, q3⟩
theorem pe_newX : PE X (.Dict [] [] pos) tNewX := ⟨fun pins s σ H Q I h =>
  wpAny_Dict_empty ⟨.ref s.heap.objs.size, _, I.laid (a := s.heap.objs.size) (o := .ext (DX s.heap.objs.size [] [])) (t' := s.toks) (fun _ _ q => Heap.get?_push_of_some _ q) (Nat.le_refl _) (dx_empty s.heap I.big), rfl, h _ (I.hok.fresh (Nat.le_refl _))⟩⟩
theorem pe_dispX (hu : X.A.units + 20 < cLine) (hk : PE X k tk) (hv : PE X v tv) : PE X (.Dict [some k] [v] pos) (tDispX tk tv) := by
  refine ⟨fun pins s σ H Q I q => ?_⟩
  have hn := I.hok.fresh (Nat.le_refl s.heap.objs.size)
  have I1 := I.laid (a := s.heap.objs.size) (o := .ext (DX s.heap.objs.size [] [])) (h' := s.heap.push { cls := .type "dict", data := .dict #[] }) (t' := s.toks) (fun _ _ q => Heap.get?_push_of_some _ q) (Nat.le_refl _) (dx_empty s.heap I.big)
  have hsh := PySem.zip_pairTrees [some k] [v] X.env pos rfl rfl
  have hln := PySem.pairTrees_length [some k] [v] X.env pos rfl rfl
  rw [arm_eval_Dict, hsh, dictDisplay_pairs (pairTrees [some k] [v] X.env pos) (by intro e; rw [e] at hln; cases hln) (by rw [hln, List.length_singleton]; omega)]
  have hp : PPs X pos [some k] [v] [(tk, tv)] := pps_cons hk hv pps_nil
  refine wpAny_bind (wpAny_standAt (wpAny_bind (wpAny_subDictH (knd := nestedKind X.prog X.w) (by show X.A.units + 8 < cLine; omega) (by rw [hln, List.length_singleton]; omega) ?_)))
  refine thn (hp.run pins _ σ _ _ I1 (q _ hn)) ?_
  rintro ws s2 ⟨ps, H2, I2, rel, b, k1, y, rfl, kn, dp, nk, ep, q2⟩
  cases rel with
  | @cons a b1 as bs h t =>
    cases t
    obtain ⟨b11, b12⟩ := b1
    obtain ⟨h1, h2⟩ := h
    cases (show b11 = Value.ref b from h1)
    obtain ⟨z, hd, _, xs, rel0, _, dd⟩ := dx_rd I2.hok (.inl ep) .nil
    cases rel0
    refine ⟨[(k1, b, b12)], ⟨rfl, rfl, ⟨KN.is I2.hok k1 kn rfl, dp⟩, trivial⟩, dd, fun h' tk' dd' hs => ?_⟩
    refine wpAny_pure ⟨.ref s.heap.objs.size, _, ?_, rfl, q2⟩
    obtain ⟨ob, es, ep', hq, h2', h3, h4, _, h5⟩ := dd'
    have hx : ∀ x, x ∈ [(k1, b, b12)] → numK x.1 = true := fun x hx => by rw [List.mem_singleton.mp hx]; exact nk
    refine d_write I2 (by rw [ep]; exact True.intro) hs ⟨ob, hq⟩ (dx_obj ⟨by rw [List.length_singleton, sizeLine_eq]; decide, hd, fun p hp => by rw [List.mem_singleton.mp hp]; exact nk, [(k1, b, b12)], .cons ⟨rfl, h2⟩ .nil, rfl, ob, es, ep', hq, h2', h3, fun w => ?_, h5⟩)
    rw [ent_num hx w X.w]; exact h4
end
/-! walks -/
section
variable {X : Cx} {pins : List (Addr × Obj)} {σ : L2.St} {H : Hp} {s : Shared} {d : Addr} {o : Obj} {kvs : List (NK × V)} {bs : List V}
end
section
variable {P : Program} {w : World} {K : PySem.W.Frag} {tg : Expr} {d : Addr} {o : Obj} {es : Array DictEntry} {ep : Nat}
end
end Ab
/-! Ab0: values as trees, with a mark where a list is held by one holder alone; how they lie in the heap. -/
namespace Ab
open PySem L2

inductive D where
  | non | bl (b : Bool) | int (i : Int) | str (s : Str)
  | tup (ds : List D)
  | lst (m : Bool) (ds : List D)
  | ins (m : Bool) (c : Nat) (ds : List D)
  | scr (is : List Int)
  | dic (m : Bool) (t : Nat) (ks ds : List D)
  | clo (n : Nat) (cap : List D)
  | fn (n : Nat) (js : List Nat)
  | tbs
  deriving Inhabited
/-! dicts: the kind t of their keys: 0: ints, else flat tuples of ints -/
def kI : D → Key
  | .int i => .inl i
  | _ => .inl 0
def isI : D → Bool
  | .int _ => true
  | _ => false
def kT : D → List Key
  | .tup ds => ds.map kI
  | _ => []
mutual
/-- a value as a nested key -/
def nk : D → NK
  | .non => .none
  | .bl _ => .none
  | .int i => .num i
  | .str _ => .none
  | .tup ds => .tup (nks ds)
  | .lst _ _ => .none
  | .ins _ _ _ => .none
  | .scr _ => .none
  | .dic _ _ _ _ => .none
  | .clo _ _ => .none
  | .fn _ _ => .none
  | .tbs => .none
def nks : List D → List NK
  | [] => []
  | d :: ds => nk d :: nks ds
end
mutual
/-- ints and tuples of such -/
def nOk : D → Bool
  | .non => false
  | .bl _ => false
  | .int _ => true
  | .str _ => false
  | .tup ds => nOks ds
  | .lst _ _ => false
  | .ins _ _ _ => false
  | .scr _ => false
  | .dic _ _ _ _ => false
  | .clo _ _ => false
  | .fn _ _ => false
  | .tbs => false
def nOks : List D → Bool
  | [] => true
  | d :: ds => nOk d && nOks ds
end
def kOk (t : Nat) : D → Bool
  | .int _ => t == 0
  | .tup ds => (t == 1 && ds.all isI) || (t == 2 && (nOks ds && decide ((nk (.tup ds)).depth ≤ 8)))
  | _ => false
def dO (a : Addr) (t : Nat) (bs : List V) (ks : List D) (vs : List V) : HO := if t = 0 then .dK ((ks.map kI).zip vs) else if t = 1 then .dT ((ks.map kT).zip vs) else .ext (DX a ((ks.map nk).zip vs) bs)
theorem dO_cases {p : HO → Prop} {a : Addr} {t : Nat} {bs : List V} {ks : List D} {vs : List V} (h0 : ∀ x, p (.dK x)) (h1 : ∀ x, p (.dT x)) (h2 : ∀ x, p (.ext x)) : p (dO a t bs ks vs) := by
  unfold dO
  split
  · exact h0 _
  · split
    · exact h1 _
    · exact h2 _

/-- a class of the text: its address, its attributes' names in the order in which they are stored -/
structure Cl where
  addr : Addr
  fields : List Str
structure Sig where
  K : PySem.W.Frag
  cls : Nat → Option Cl
  exn : Nat → Value
  nf : Nat → NdefX.NF → Prop := fun _ _ => False
  fr : Nat → List Str := fun _ => []
  cel : List (Str × Addr) := []
  tabs : List NdefX.NTab := []
/-- the same, in a frame with other cells -/
def Sig.at (S : Sig) (ce : List (Str × Addr)) : Sig := { S with cel := ce }
/-- a function object and its code object -/
def FnF (F : Hp) (f : Addr) (nf : NdefX.NF) : Prop := F f = some (NdefX.FnO f nf) ∧ F nf.c = some (LamX.CodeO nf.c nf.qual)
theorem FnF.keep {F F' : Hp} {f : Addr} {nf : NdefX.NF} (h : FnF F f nf) (k : ∀ x o, F x = some o → F' x = some o) : FnF F' f nf := ⟨k _ _ h.1, k _ _ h.2⟩
/-- a table of code objects: owned; the code objects that it tells are shared -/
def TabF (F H : Hp) (p : NdefX.NTab) : Prop := ∃ ps : Array Value, H p.1 = some (.tbl ps) ∧ TriplesOk ps.toList ∧ ∀ (pos : Pos) (cv : Value), codeAmong pos ps.toList = some cv → ∃ c, cv = .ref c ∧ F c = some (LamX.CodeO c (p.2 pos.line pos.col))
theorem TabF.keep {F F' H H' : Hp} {p : NdefX.NTab} (h : TabF F H p) (k : ∀ x o, F x = some o → F' x = some o) (e : H' p.1 = H p.1) : TabF F' H' p := by
  obtain ⟨ps, h1, h2, h3⟩ := h
  exact ⟨ps, e.trans h1, h2, fun pos cv hc => by obtain ⟨c, e1, e2⟩ := h3 pos cv hc; exact ⟨c, e1, k _ _ e2⟩⟩
/-! closures: a function made within a def, and what its captured cells hold -/
structure CelF (F : Hp) (cl : List (Str × Addr)) (fr : List Str) (ws : List V) : Prop where
  len : ws.length = fr.length
  all : ∀ y c, cl.lookup y = some c → ∃ o v, F c = some (.frz o (.own c)) ∧ o.data = .cell v
  inj : ∀ x y c, cl.lookup x = some c → cl.lookup y = some c → x = y
  has : ∀ (i : Nat) (y : Str) (w : V), fr[i]? = some y → ws[i]? = some w → ∃ c o u, cl.lookup y = some c ∧ F c = some (.frz o (.own c)) ∧ o.data = .cell (some u) ∧ RelV w u
open Classical in
noncomputable def dropC (F : Hp) (cl : List (Str × Addr)) : Hp := fun a => if ∃ y, cl.lookup y = some a then none else F a
theorem CelF.same {F F' : Hp} (h : Same F F') {cl : List (Str × Addr)} {fr : List Str} {ws : List V} (c : CelF F cl fr ws) : CelF F' cl fr ws :=
  ⟨c.len, fun y a e => by obtain ⟨o, v, h1, h2⟩ := c.all y a e; exact ⟨o, v, h _ _ h1, h2⟩, c.inj, fun i y w e1 e2 => by obtain ⟨a, o, u, h1, h2, h3, h4⟩ := c.has i y w e1 e2; exact ⟨a, o, u, h1, h _ _ h2, h3, h4⟩⟩
theorem dropC_same {F F' : Hp} (h : Same F F') (cl : List (Str × Addr)) : Same (dropC F cl) (dropC F' cl) := fun x o e => by
  unfold dropC at e ⊢
  split at e
  · cases e
  · rename_i hx; rw [if_neg hx]; exact h x o e

abbrev Fp := Addr → Prop
def Emp : Fp := fun _ => False
def Uni (P Q : Fp) : Fp := fun x => P x ∨ Q x
def Dis (P Q : Fp) : Prop := ∀ x, P x → Q x → False

mutual
def Rep (S : Sig) (F H : Hp) : D → V → Fp → Prop
  | .non, v, P => v = .non ∧ P = Emp
  | .bl b, v, P => v = .bl b ∧ P = Emp
  | .int i, v, P => v = .int i ∧ P = Emp
  | .str s, v, P => v = .str s ∧ P = Emp
  | .tup ds, v, P => P = Emp ∧ ∃ a vs, v = .ref a ∧ F a = some (.tup vs) ∧ Reps S F H ds vs Emp
  | .lst m ds, v, P => ∃ a vs, v = .ref a ∧ (if m = true then (H a = some (.lst vs) ∧ P a ∧ ∃ P', ¬ P' a ∧ P = Uni (fun x => x = a) P' ∧ Reps S F H ds vs P') else (P = Emp ∧ F a = some (.lst vs) ∧ Reps S F H ds vs Emp))
  | .ins m c ds, v, P => ∃ a cl dx vs, v = .ref a ∧ S.cls c = some cl ∧ ds.length ≤ cl.fields.length ∧
      (if m = true then (H a = some (.ins cl.addr dx (cl.fields.zip vs)) ∧ P a ∧ ∃ P', ¬ P' a ∧ P = Uni (fun x => x = a) P' ∧ Reps S F H ds vs P') else (P = Emp ∧ F a = some (.ins cl.addr dx (cl.fields.zip vs)) ∧ Reps S F H ds vs Emp))
  | .dic m t ks ds, v, P => ∃ a vs bs, v = .ref a ∧ ks.all (kOk t) = true ∧ ks.length = ds.length ∧ (2 ≤ t → Reps S F H ks bs Emp) ∧
      (if m = true then (H a = some (dO a t bs ks vs) ∧ P a ∧ ∃ P', ¬ P' a ∧ P = Uni (fun x => x = a) P' ∧ Reps S F H ds vs P') else (P = Emp ∧ Rd F a (dO a t bs ks vs) ∧ Reps S F H ds vs Emp))
  | .scr is, v, P => P = Emp ∧ ∃ a, v = .ref a ∧ SqL S.K F a (is.map V.int)
  | .clo n cap, v, P => P = Emp ∧ ∃ f nf ws, v = .ref f ∧ FnF F f nf ∧ S.nf n nf ∧ CelF F nf.cl (S.fr n) ws ∧ Reps S (dropC F nf.cl) H cap ws Emp
  | .fn n js, v, P => P = Emp ∧ ∃ f nf, v = .ref f ∧ FnF F f nf ∧ S.nf n nf ∧ nf.cl = cloFrom S.cel nf.scope.names []
  | .tbs, v, P => v = .non ∧ P = (fun x => ∃ p ∈ S.tabs, p.1 = x) ∧ ∀ p ∈ S.tabs, TabF F H p
def Reps (S : Sig) (F H : Hp) : List D → List V → Fp → Prop
  | [], vs, P => vs = [] ∧ P = Emp
  | d :: ds, vs, P => ∃ v r P1 P2, vs = v :: r ∧ P = Uni P1 P2 ∧ Dis P1 P2 ∧ Rep S F H d v P1 ∧ Reps S F H ds r P2
end
end Ab
namespace Ab
open PySem L2

theorem uni_emp (P : Fp) : Uni P Emp = P := by
  funext x; exact propext ⟨fun h => h.elim id False.elim, .inl⟩
theorem emp_uni (P : Fp) : Uni Emp P = P := by
  funext x; exact propext ⟨fun h => h.elim False.elim id, .inr⟩
theorem uni_comm (P Q : Fp) : Uni P Q = Uni Q P := by
  funext x; exact propext ⟨Or.symm, Or.symm⟩
theorem uni_assoc (P Q R : Fp) : Uni (Uni P Q) R = Uni P (Uni Q R) := by
  funext x; exact propext ⟨fun h => or_assoc.mp h, fun h => or_assoc.mpr h⟩
theorem Dis.symm {P Q : Fp} (h : Dis P Q) : Dis Q P := fun x a b => h x b a
theorem dis_emp {P : Fp} : Dis P Emp := fun _ _ h => h
theorem emp_dis {P : Fp} : Dis Emp P := fun _ h _ => h
theorem Dis.uni {P Q R : Fp} (h1 : Dis P R) (h2 : Dis Q R) : Dis (Uni P Q) R := fun x a b => a.elim (fun z => h1 x z b) fun z => h2 x z b
theorem Dis.uni' {P Q R : Fp} (h1 : Dis R P) (h2 : Dis R Q) : Dis R (Uni P Q) := (h1.symm.uni h2.symm).symm

variable {S : Sig} {F F' H H' : Hp}
theorem Reps.len : ∀ {ds : List D} {vs : List V} {P : Fp}, Reps S F H ds vs P → vs.length = ds.length
  | [], vs, P, h => by simp only [Reps] at h; rw [h.1]; rfl
  | d :: ds, vs, P, h => by
    simp only [Reps] at h
    obtain ⟨v, r, P1, P2, rfl, _, _, _, h⟩ := h
    simp [Reps.len h]

theorem Same.rd {F F' : Hp} (h : Same F F') {a : Addr} {u : HO} (r : Rd F a u) : Rd F' a u := r.elim (fun e => .inl (h _ _ e)) fun ⟨o, e⟩ => .inr ⟨o, h _ _ e⟩
mutual
theorem Rep.keep {F F' : Hp} (hF : Same F F') : ∀ (d : D) {v : V} {P : Fp}, Rep S F H d v P → (∀ x, P x → H' x = H x) → Rep S F' H' d v P
  | .non, v, P, h, k => h
  | .bl b, v, P, h, k => h
  | .int i, v, P, h, k => h
  | .str s, v, P, h, k => h
  | .tup ds, v, P, h, k => by
    simp only [Rep] at h ⊢
    obtain ⟨e, a, vs, ev, ea, h⟩ := h
    exact ⟨e, a, vs, ev, hF _ _ ea, Reps.keep hF ds h fun x hx => hx.elim⟩
  | .lst m ds, v, P, h, k => by
    simp only [Rep] at h ⊢
    obtain ⟨a, vs, ev, h⟩ := h
    refine ⟨a, vs, ev, ?_⟩
    split at h
    · rename_i hm
      obtain ⟨ea, pa, P', np, eP, h⟩ := h
      rw [if_pos hm]
      refine ⟨(k a pa).trans ea, pa, P', np, eP, Reps.keep hF ds h fun x hx => k x ?_⟩
      rw [eP]; exact .inr hx
    · rename_i hm
      rw [if_neg hm]
      exact ⟨h.1, hF _ _ h.2.1, Reps.keep hF ds h.2.2 fun x hx => hx.elim⟩
  | .ins m c ds, v, P, h, k => by
    simp only [Rep] at h ⊢
    obtain ⟨a, cl, dx, vs, ev, hc, hl, h⟩ := h
    refine ⟨a, cl, dx, vs, ev, hc, hl, ?_⟩
    split at h
    · rename_i hm
      obtain ⟨ea, pa, P', np, eP, h⟩ := h
      rw [if_pos hm]
      refine ⟨(k a pa).trans ea, pa, P', np, eP, Reps.keep hF ds h fun x hx => k x ?_⟩
      rw [eP]; exact .inr hx
    · rename_i hm
      rw [if_neg hm]
      exact ⟨h.1, hF _ _ h.2.1, Reps.keep hF ds h.2.2 fun x hx => hx.elim⟩
  | .dic m t ks ds, v, P, h, k => by
    simp only [Rep] at h ⊢
    obtain ⟨a, vs, bs, ev, hk, hl, hb, h⟩ := h
    refine ⟨a, vs, bs, ev, hk, hl, fun e => Reps.keep hF ks (hb e) fun x hx => hx.elim, ?_⟩
    split at h
    · rename_i hm
      obtain ⟨ea, pa, P', np, eP, h⟩ := h
      rw [if_pos hm]
      refine ⟨(k a pa).trans ea, pa, P', np, eP, Reps.keep hF ds h fun x hx => k x ?_⟩
      rw [eP]; exact .inr hx
    · rename_i hm
      rw [if_neg hm]
      exact ⟨h.1, Same.rd hF h.2.1, Reps.keep hF ds h.2.2 fun x hx => hx.elim⟩
  | .scr is, v, P, h, k => by
    simp only [Rep] at h ⊢
    obtain ⟨e, a, ev, h⟩ := h
    exact ⟨e, a, ev, hF.seq h⟩
  | .clo n cap, v, P, h, k => by
    simp only [Rep] at h ⊢
    obtain ⟨e, f, nf, ws, ev, ef, hn, hc, h⟩ := h
    exact ⟨e, f, nf, ws, ev, ef.keep hF, hn, hc.same hF, Reps.keep (dropC_same hF _) cap h fun x hx => hx.elim⟩
  | .fn n js, v, P, h, k => by
    simp only [Rep] at h ⊢
    obtain ⟨e, f, nf, ev, ef, hn, hc⟩ := h
    exact ⟨e, f, nf, ev, ef.keep hF, hn, hc⟩
  | .tbs, v, P, h, k => by
    simp only [Rep] at h ⊢
    obtain ⟨ev, eP, ht⟩ := h
    exact ⟨ev, eP, fun p hp => (ht p hp).keep hF (k p.1 (by rw [eP]; exact ⟨p, hp, rfl⟩))⟩
theorem Reps.keep {F F' : Hp} (hF : Same F F') : ∀ (ds : List D) {vs : List V} {P : Fp}, Reps S F H ds vs P → (∀ x, P x → H' x = H x) → Reps S F' H' ds vs P
  | [], vs, P, h, k => h
  | d :: ds, vs, P, h, k => by
    simp only [Reps] at h ⊢
    obtain ⟨v, r, P1, P2, e1, e2, di, h1, h2⟩ := h
    exact ⟨v, r, P1, P2, e1, e2, di, Rep.keep hF d h1 fun x hx => k x (by rw [e2]; exact .inl hx), Reps.keep hF ds h2 fun x hx => k x (by rw [e2]; exact .inr hx)⟩
end
mutual
theorem Rep.held : ∀ (d : D) {v : V} {P : Fp}, Rep S F H d v P → ∀ x, P x → ∃ o, H x = some o
  | .non, v, P, h, x, hx => by simp only [Rep] at h; rw [h.2] at hx; exact hx.elim
  | .bl b, v, P, h, x, hx => by simp only [Rep] at h; rw [h.2] at hx; exact hx.elim
  | .int i, v, P, h, x, hx => by simp only [Rep] at h; rw [h.2] at hx; exact hx.elim
  | .str s, v, P, h, x, hx => by simp only [Rep] at h; rw [h.2] at hx; exact hx.elim
  | .tup ds, v, P, h, x, hx => by simp only [Rep] at h; rw [h.1] at hx; exact hx.elim
  | .lst m ds, v, P, h, x, hx => by
    simp only [Rep] at h
    obtain ⟨a, vs, ev, h⟩ := h
    split at h
    · obtain ⟨ea, pa, P', np, eP, h⟩ := h
      rw [eP] at hx
      rcases hx with hx | hx
      · exact ⟨_, hx ▸ ea⟩
      · exact Reps.held ds h x hx
    · rw [h.1] at hx; exact hx.elim
  | .ins m c ds, v, P, h, x, hx => by
    simp only [Rep] at h
    obtain ⟨a, cl, dx, vs, ev, hc, hl, h⟩ := h
    split at h
    · obtain ⟨ea, pa, P', np, eP, h⟩ := h
      rw [eP] at hx
      rcases hx with hx | hx
      · exact ⟨_, hx ▸ ea⟩
      · exact Reps.held ds h x hx
    · rw [h.1] at hx; exact hx.elim
  | .dic m t ks ds, v, P, h, x, hx => by
    simp only [Rep] at h
    obtain ⟨a, vs, bs, ev, hk, hl, hb, h⟩ := h
    split at h
    · obtain ⟨ea, pa, P', np, eP, h⟩ := h
      rw [eP] at hx
      rcases hx with hx | hx
      · exact ⟨_, hx ▸ ea⟩
      · exact Reps.held ds h x hx
    · rw [h.1] at hx; exact hx.elim
  | .scr is, v, P, h, x, hx => by simp only [Rep] at h; rw [h.1] at hx; exact hx.elim
  | .clo n cap, v, P, h, x, hx => by simp only [Rep] at h; rw [h.1] at hx; exact hx.elim
  | .fn n js, v, P, h, x, hx => by simp only [Rep] at h; rw [h.1] at hx; exact hx.elim
  | .tbs, v, P, h, x, hx => by
    simp only [Rep] at h
    rw [h.2.1] at hx
    obtain ⟨p, hp, rfl⟩ := hx
    obtain ⟨ps, e, _⟩ := h.2.2 p hp
    exact ⟨_, e⟩
theorem Reps.held : ∀ (ds : List D) {vs : List V} {P : Fp}, Reps S F H ds vs P → ∀ x, P x → ∃ o, H x = some o
  | [], vs, P, h, x, hx => by simp only [Reps] at h; rw [h.2] at hx; exact hx.elim
  | d :: ds, vs, P, h, x, hx => by
    simp only [Reps] at h
    obtain ⟨v, r, P1, P2, e1, e2, di, h1, h2⟩ := h
    rw [e2] at hx
    exact hx.elim (Rep.held d h1 x) (Reps.held ds h2 x)
end
/-! what is held alone is no tuple -/
mutual
theorem Rep.notup : ∀ (d : D) {v : V} {P : Fp}, Rep S F H d v P → ∀ x, P x → ∀ ws, H x ≠ some (.tup ws)
  | .non, v, P, h, x, hx, ws => by simp only [Rep] at h; rw [h.2] at hx; exact hx.elim
  | .bl b, v, P, h, x, hx, ws => by simp only [Rep] at h; rw [h.2] at hx; exact hx.elim
  | .int i, v, P, h, x, hx, ws => by simp only [Rep] at h; rw [h.2] at hx; exact hx.elim
  | .str s, v, P, h, x, hx, ws => by simp only [Rep] at h; rw [h.2] at hx; exact hx.elim
  | .tup ds, v, P, h, x, hx, ws => by simp only [Rep] at h; rw [h.1] at hx; exact hx.elim
  | .lst m ds, v, P, h, x, hx, ws => by
    simp only [Rep] at h
    obtain ⟨a, vs, ev, h⟩ := h
    split at h
    · obtain ⟨ea, pa, P', np, eP, h⟩ := h
      rw [eP] at hx
      rcases hx with hx | hx
      · intro z; have hx : x = a := hx; rw [hx, ea] at z; cases z
      · exact Reps.notup ds h x hx ws
    · rw [h.1] at hx; exact hx.elim
  | .ins m c ds, v, P, h, x, hx, ws => by
    simp only [Rep] at h
    obtain ⟨a, cl, dx, vs, ev, hc, hl, h⟩ := h
    split at h
    · obtain ⟨ea, pa, P', np, eP, h⟩ := h
      rw [eP] at hx
      rcases hx with hx | hx
      · intro z; have hx : x = a := hx; rw [hx, ea] at z; cases z
      · exact Reps.notup ds h x hx ws
    · rw [h.1] at hx; exact hx.elim
  | .dic m t ks ds, v, P, h, x, hx, ws => by
    simp only [Rep] at h
    obtain ⟨a, vs, bs, ev, hk, hl, hb, h⟩ := h
    split at h
    · obtain ⟨ea, pa, P', np, eP, h⟩ := h
      rw [eP] at hx
      rcases hx with hx | hx
      · intro z; have hx : x = a := hx; rw [hx, ea] at z; revert z; exact dO_cases (p := fun o => some o = some (HO.tup ws) → False) (fun _ z => by cases z) (fun _ z => by cases z) (fun _ z => by cases z)
      · exact Reps.notup ds h x hx ws
    · rw [h.1] at hx; exact hx.elim
  | .scr is, v, P, h, x, hx, ws => by simp only [Rep] at h; rw [h.1] at hx; exact hx.elim
  | .clo n cap, v, P, h, x, hx, ws => by simp only [Rep] at h; rw [h.1] at hx; exact hx.elim
  | .fn n js, v, P, h, x, hx, ws => by simp only [Rep] at h; rw [h.1] at hx; exact hx.elim
  | .tbs, v, P, h, x, hx, ws => by
    simp only [Rep] at h
    rw [h.2.1] at hx
    obtain ⟨p, hp, rfl⟩ := hx
    obtain ⟨ps, e, _⟩ := h.2.2 p hp
    rw [e]; exact fun z => by cases z
theorem Reps.notup : ∀ (ds : List D) {vs : List V} {P : Fp}, Reps S F H ds vs P → ∀ x, P x → ∀ ws, H x ≠ some (.tup ws)
  | [], vs, P, h, x, hx, ws => by simp only [Reps] at h; rw [h.2] at hx; exact hx.elim
  | d :: ds, vs, P, h, x, hx, ws => by
    simp only [Reps] at h
    obtain ⟨v, r, P1, P2, e1, e2, di, h1, h2⟩ := h
    rw [e2] at hx
    exact hx.elim (fun z => Rep.notup d h1 x z ws) (fun z => Reps.notup ds h2 x z ws)
end
-- all marks taken away
mutual
def frz : D → D
  | .non => .non
  | .bl b => .bl b
  | .int i => .int i
  | .str s => .str s
  | .tup ds => .tup ds
  | .lst _ ds => .lst false (frzs ds)
  | .ins _ c ds => .ins false c (frzs ds)
  | .scr is => .scr is
  | .dic _ t ks ds => .dic false t ks (frzs ds)
  | .clo n cap => .clo n cap
  | .fn n js => .fn n js
  | .tbs => .non
def frzs : List D → List D
  | [] => []
  | d :: ds => frz d :: frzs ds
end
theorem frzs_len : ∀ ds : List D, (frzs ds).length = ds.length
  | [] => rfl
  | d :: ds => by simp [frzs, frzs_len ds]
mutual
theorem Rep.frz (hF : Same F F') : ∀ (d : D) {v : V} {P : Fp}, Rep S F H d v P → (∀ x, P x → F' x = H x) → Rep S F' H' (frz d) v Emp
  | .non, v, P, h, k => by simp only [Rep] at h; simp only [Ab.frz, Rep]; exact ⟨h.1, trivial⟩
  | .bl b, v, P, h, k => by simp only [Rep] at h; simp only [Ab.frz, Rep]; exact ⟨h.1, trivial⟩
  | .int i, v, P, h, k => by simp only [Rep] at h; simp only [Ab.frz, Rep]; exact ⟨h.1, trivial⟩
  | .str s, v, P, h, k => by simp only [Rep] at h; simp only [Ab.frz, Rep]; exact ⟨h.1, trivial⟩
  | .tup ds, v, P, h, k => by
    simp only [Rep] at h; simp only [Ab.frz, Rep]
    obtain ⟨e, a, vs, ev, ea, h⟩ := h
    exact ⟨trivial, a, vs, ev, hF _ _ ea, Reps.keep hF ds h fun x hx => hx.elim⟩
  | .lst m ds, v, P, h, k => by
    simp only [Rep] at h; simp only [Ab.frz, Rep]
    obtain ⟨a, vs, ev, h⟩ := h
    refine ⟨a, vs, ev, ?_⟩
    rw [if_neg (by decide)]
    split at h
    · obtain ⟨ea, pa, P', np, eP, h⟩ := h
      exact ⟨trivial, (k a pa).trans ea, Reps.frz hF ds h fun x hx => k x (by rw [eP]; exact .inr hx)⟩
    · exact ⟨trivial, hF _ _ h.2.1, Reps.frz hF ds h.2.2 fun x hx => hx.elim⟩
  | .ins m c ds, v, P, h, k => by
    simp only [Rep] at h; simp only [Ab.frz, Rep]
    obtain ⟨a, cl, dx, vs, ev, hc, hl, h⟩ := h
    refine ⟨a, cl, dx, vs, ev, hc, by rw [frzs_len]; exact hl, ?_⟩
    rw [if_neg (by decide)]
    split at h
    · obtain ⟨ea, pa, P', np, eP, h⟩ := h
      exact ⟨trivial, (k a pa).trans ea, Reps.frz hF ds h fun x hx => k x (by rw [eP]; exact .inr hx)⟩
    · exact ⟨trivial, hF _ _ h.2.1, Reps.frz hF ds h.2.2 fun x hx => hx.elim⟩
  | .dic m t ks ds, v, P, h, k => by
    simp only [Rep] at h; simp only [Ab.frz, Rep]
    obtain ⟨a, vs, bs, ev, hk, hl, hb, h⟩ := h
    refine ⟨a, vs, bs, ev, hk, by rw [frzs_len]; exact hl, fun e => Reps.keep hF ks (hb e) fun x hx => hx.elim, ?_⟩
    rw [if_neg (by decide)]
    split at h
    · obtain ⟨ea, pa, P', np, eP, h⟩ := h
      exact ⟨trivial, .inl ((k a pa).trans ea), Reps.frz hF ds h fun x hx => k x (by rw [eP]; exact .inr hx)⟩
    · exact ⟨trivial, Same.rd hF h.2.1, Reps.frz hF ds h.2.2 fun x hx => hx.elim⟩
  | .scr is, v, P, h, k => by
    simp only [Rep] at h; simp only [Ab.frz, Rep]
    obtain ⟨e, a, ev, h⟩ := h
    exact ⟨trivial, a, ev, hF.seq h⟩
  | .clo n cap, v, P, h, k => by
    simp only [Rep] at h; simp only [Ab.frz, Rep]
    obtain ⟨e, f, nf, ws, ev, ef, hn, hc, h⟩ := h
    exact ⟨trivial, f, nf, ws, ev, ef.keep hF, hn, hc.same hF, Reps.keep (dropC_same hF _) cap h fun x hx => hx.elim⟩
  | .fn n js, v, P, h, k => by
    simp only [Rep] at h; simp only [Ab.frz, Rep]
    obtain ⟨e, f, nf, ev, ef, hn, hc⟩ := h
    exact ⟨trivial, f, nf, ev, ef.keep hF, hn, hc⟩
  | .tbs, v, P, h, k => by
    simp only [Rep] at h; simp only [Ab.frz, Rep]
    exact ⟨h.1, trivial⟩
theorem Reps.frz (hF : Same F F') : ∀ (ds : List D) {vs : List V} {P : Fp}, Reps S F H ds vs P → (∀ x, P x → F' x = H x) → Reps S F' H' (frzs ds) vs Emp
  | [], vs, P, h, k => by simp only [Reps] at h; simp only [frzs, Reps]; exact ⟨h.1, trivial⟩
  | d :: ds, vs, P, h, k => by
    simp only [Reps] at h; simp only [frzs, Reps]
    obtain ⟨v, r, P1, P2, e1, e2, di, h1, h2⟩ := h
    exact ⟨v, r, Emp, Emp, e1, (uni_emp _).symm, dis_emp, Rep.frz hF d h1 fun x hx => k x (by rw [e2]; exact .inl hx), Reps.frz hF ds h2 fun x hx => k x (by rw [e2]; exact .inr hx)⟩
end
-- nothing is held by this value alone
mutual
def still : D → Bool
  | .lst m ds => !m && stills ds
  | .ins m _ ds => !m && stills ds
  | .dic m _ _ ds => !m && stills ds
  | .tbs => false
  | _ => true
def stills : List D → Bool
  | [] => true
  | d :: ds => still d && stills ds
end
mutual
theorem Rep.still : ∀ (d : D) {v : V} {P : Fp}, Rep S F H d v P → still d = true → P = Emp
  | .non, v, P, h, k => by simp only [Rep] at h; exact h.2
  | .bl b, v, P, h, k => by simp only [Rep] at h; exact h.2
  | .int i, v, P, h, k => by simp only [Rep] at h; exact h.2
  | .str s, v, P, h, k => by simp only [Rep] at h; exact h.2
  | .tup ds, v, P, h, k => by simp only [Rep] at h; exact h.1
  | .lst m ds, v, P, h, k => by
    simp only [Ab.still, Bool.and_eq_true, Bool.not_eq_true'] at k
    simp only [Rep, k.1] at h
    obtain ⟨a, vs, ev, h⟩ := h
    rw [if_neg (by decide)] at h
    exact h.1
  | .ins m c ds, v, P, h, k => by
    simp only [Ab.still, Bool.and_eq_true, Bool.not_eq_true'] at k
    simp only [Rep, k.1] at h
    obtain ⟨a, cl, dx, vs, ev, _, _, h⟩ := h
    rw [if_neg (by decide)] at h
    exact h.1
  | .dic m t ks ds, v, P, h, k => by
    simp only [Ab.still, Bool.and_eq_true, Bool.not_eq_true'] at k
    simp only [Rep, k.1] at h
    obtain ⟨a, vs, bs, ev, _, _, _, h⟩ := h
    rw [if_neg (by decide)] at h
    exact h.1
  | .scr is, v, P, h, k => by simp only [Rep] at h; exact h.1
  | .clo n cap, v, P, h, k => by simp only [Rep] at h; exact h.1
  | .fn n js, v, P, h, k => by simp only [Rep] at h; exact h.1
  | .tbs, v, P, h, k => by simp [Ab.still] at k
end
mutual
theorem frz_still : ∀ d : D, still d = true → frz d = d
  | .non, _ => rfl
  | .bl b, _ => rfl
  | .int i, _ => rfl
  | .str s, _ => rfl
  | .tup ds, _ => rfl
  | .lst m ds, k => by
    simp only [still, Bool.and_eq_true, Bool.not_eq_true'] at k
    simp only [frz, k.1, frzs_stills ds k.2]
  | .ins m c ds, k => by
    simp only [still, Bool.and_eq_true, Bool.not_eq_true'] at k
    simp only [frz, k.1, frzs_stills ds k.2]
  | .dic m t ks ds, k => by
    simp only [still, Bool.and_eq_true, Bool.not_eq_true'] at k
    simp only [frz, k.1, frzs_stills ds k.2]
  | .scr is, _ => rfl
  | .clo n cap, _ => rfl
  | .fn n js, _ => rfl
  | .tbs, k => by simp [still] at k
theorem frzs_stills : ∀ ds : List D, stills ds = true → frzs ds = ds
  | [], _ => rfl
  | d :: ds, k => by
    simp only [stills, Bool.and_eq_true] at k
    simp only [frzs, frz_still d k.1, frzs_stills ds k.2]
end
mutual
theorem still_frz : ∀ d : D, still (frz d) = true
  | .non => rfl
  | .bl b => rfl
  | .int i => rfl
  | .str s => rfl
  | .tup ds => rfl
  | .lst m ds => by simp [frz, still, stills_frzs ds]
  | .ins m c ds => by simp [frz, still, stills_frzs ds]
  | .dic m t ks ds => by simp [frz, still, stills_frzs ds]
  | .scr is => rfl
  | .clo n cap => rfl
  | .fn n js => rfl
  | .tbs => rfl
theorem stills_frzs : ∀ ds : List D, stills (frzs ds) = true
  | [] => rfl
  | d :: ds => by simp [frzs, stills, still_frz d, stills_frzs ds]
end
end Ab
namespace Ab
open PySem L2

abbrev SA := List (Option D)
inductive Er (α : Type) where
  | ok (x : α) (s : SA) | rz (c : Nat) (s : SA) | bad
  deriving Inhabited

def RepS (S : Sig) (F H : Hp) : SA → St → Fp → Prop
  | [], σ, P => σ = [] ∧ P = Emp
  | none :: r, σ, P => ∃ o σ', σ = o :: σ' ∧ RepS S F H r σ' P
  | some d :: r, σ, P => ∃ v σ' P1 P2, σ = some v :: σ' ∧ P = Uni P1 P2 ∧ Dis P1 P2 ∧ Rep S F H d v P1 ∧ RepS S F H r σ' P2

structure SR (S : Sig) (F H : Hp) (a : SA) (σ : St) (P : Fp) : Prop where
  rep : RepS S F H a σ P
  fr : ∀ x, P x → F x = none
  sub : Same F H

/-- what may have become of the heap -/
structure Ext (F F' H H' : Hp) (P P' : Fp) : Prop where
  same : Same F F'
  kept : ∀ x o, H x = some o → ¬ P x → H' x = some o
  own : ∀ x, P' x → P x ∨ H x = none
  frz : ∀ x o, F' x = some o → (∃ o, F x = some o) ∨ P x ∨ H x = none ∨ ∃ vs, H x = some (.tup vs)
theorem Ext.refl {F H : Hp} {P : Fp} : Ext F F H H P P := ⟨fun _ _ h => h, fun _ _ h _ => h, fun _ h => .inl h, fun _ o h => .inl ⟨o, h⟩⟩
theorem Ext.trans {F F1 F2 H H1 H2 : Hp} {P P1 P2 : Fp} (a : Ext F F1 H H1 P P1) (b : Ext F1 F2 H1 H2 P1 P2) : Ext F F2 H H2 P P2 := by
  have g : ∀ x, P1 x ∨ H1 x = none → P x ∨ H x = none := fun x h => by
    rcases h with h | h
    · exact a.own x h
    · cases q : H x with
      | none => exact .inr rfl
      | some o =>
        by_cases hp : P x
        · exact .inl hp
        · rw [a.kept x o q hp] at h; cases h
  refine ⟨a.same.trans b.same, fun x o h hp => ?_, fun x h => g x (b.own x h), fun x o h => ?_⟩
  · refine b.kept x o (a.kept x o h hp) fun h1 => ?_
    rcases a.own x h1 with z | z
    · exact hp z
    · rw [z] at h; cases h
  · rcases b.frz x o h with z | z | z | ⟨vs, z⟩
    · obtain ⟨o', z⟩ := z
      exact a.frz x o' z
    · exact (g x (.inl z)).elim (fun z => .inr (.inl z)) fun z => .inr (.inr (.inl z))
    · exact (g x (.inr z)).elim (fun z => .inr (.inl z)) fun z => .inr (.inr (.inl z))
    · cases q : H x with
      | none => exact .inr (.inr (.inl rfl))
      | some o2 =>
        by_cases hp : P x
        · exact .inr (.inl hp)
        · rw [a.kept x o2 q hp] at z
          exact .inr (.inr (.inr ⟨vs, z⟩))
theorem Ext.less {F F' H H' : Hp} {P P1 P2 : Fp} (a : Ext F F' H H' P P1) (h : ∀ x, P2 x → P1 x) : Ext F F' H H' P P2 := ⟨a.same, a.kept, fun x q => a.own x (h x q), a.frz⟩
/-- more is set aside at the start -/
theorem Ext.frame {F F' H H' : Hp} {P P1 R : Fp} (a : Ext F F' H H' P P1) : Ext F F' H H' (Uni P R) (Uni P1 R) :=
  ⟨a.same, fun x o h n => a.kept x o h fun z => n (.inl z), fun x h => h.elim (fun z => (a.own x z).elim (fun y => .inl (.inl y)) .inr) fun z => .inl (.inr z), fun x o h => (a.frz x o h).elim .inl fun z => .inr (z.elim (fun y => .inl (.inl y)) .inr)⟩
/-- what is set aside stays -/
theorem Ext.aside {S : Sig} {F F' H H' : Hp} {P P' R : Fp} {d : D} {v : V} (e : Ext F F' H H' P P') (r : Rep S F H d v R) (n : Dis R P) : Rep S F' H' d v R :=
  r.keep e.same d fun x hx => by
    obtain ⟨o, q⟩ := r.held d x hx
    rw [q, e.kept x o q fun z => n x hx z]
theorem Ext.asides {S : Sig} {F F' H H' : Hp} {P P' R : Fp} {ds : List D} {vs : List V} (e : Ext F F' H H' P P') (r : Reps S F H ds vs R) (n : Dis R P) : Reps S F' H' ds vs R :=
  Reps.keep e.same ds r fun x hx => by
    obtain ⟨o, q⟩ := Reps.held ds r x hx
    rw [q, e.kept x o q fun z => n x hx z]
theorem Ext.dis {F F' H H' : Hp} {P P' R : Fp} (e : Ext F F' H H' P P') (n : Dis R P) (r : ∀ x, R x → ∃ o, H x = some o) : Dis R P' := fun x hx hp => by
  rcases e.own x hp with z | z
  · exact n x hx z
  · obtain ⟨o, q⟩ := r x hx
    rw [z] at q; cases q
theorem Ext.unf {F F' H H' : Hp} {P P' R : Fp} (e : Ext F F' H H' P P') (n : Dis R P) (r : ∀ x, R x → ∃ o, H x = some o) (nt : ∀ x, R x → ∀ vs, H x ≠ some (.tup vs)) (f : ∀ x, R x → F x = none) : ∀ x, R x → F' x = none := fun x hx => by
  cases q : F' x with
  | none => rfl
  | some o =>
    rcases e.frz x o q with ⟨o', z⟩ | z | z | ⟨vs, z⟩
    · rw [f x hx] at z; cases z
    · exact (n x hx z).elim
    · obtain ⟨o', q'⟩ := r x hx
      rw [z] at q'; cases q'
    · exact (nt x hx vs z).elim

variable {S : Sig} {F F' H H' : Hp}
theorem RepS.len : ∀ {a : SA} {σ : St} {P : Fp}, RepS S F H a σ P → σ.length = a.length
  | [], σ, P, h => by rw [h.1]; rfl
  | none :: r, σ, P, h => by obtain ⟨o, σ', rfl, h⟩ := h; simp [RepS.len h]
  | some d :: r, σ, P, h => by obtain ⟨v, σ', P1, P2, rfl, _, _, _, h⟩ := h; simp [RepS.len h]
theorem RepS.keep (hF : Same F F') : ∀ {a : SA} {σ : St} {P : Fp}, RepS S F H a σ P → (∀ x, P x → H' x = H x) → RepS S F' H' a σ P
  | [], σ, P, h, k => h
  | none :: r, σ, P, h, k => by obtain ⟨o, σ', e, h⟩ := h; exact ⟨o, σ', e, RepS.keep hF h k⟩
  | some d :: r, σ, P, h, k => by
    obtain ⟨v, σ', P1, P2, e, e2, di, h1, h⟩ := h
    exact ⟨v, σ', P1, P2, e, e2, di, h1.keep hF d fun x hx => k x (by rw [e2]; exact .inl hx), RepS.keep hF h fun x hx => k x (by rw [e2]; exact .inr hx)⟩
theorem RepS.held : ∀ {a : SA} {σ : St} {P : Fp}, RepS S F H a σ P → ∀ x, P x → ∃ o, H x = some o
  | [], σ, P, h, x, hx => by rw [h.2] at hx; exact hx.elim
  | none :: r, σ, P, h, x, hx => by obtain ⟨o, σ', e, h⟩ := h; exact RepS.held h x hx
  | some d :: r, σ, P, h, x, hx => by
    obtain ⟨v, σ', P1, P2, e, e2, di, h1, h⟩ := h
    rw [e2] at hx
    exact hx.elim (h1.held d x) (RepS.held h x)
theorem RepS.notup : ∀ {a : SA} {σ : St} {P : Fp}, RepS S F H a σ P → ∀ x, P x → ∀ ws, H x ≠ some (.tup ws)
  | [], σ, P, h, x, hx, ws => by rw [h.2] at hx; exact hx.elim
  | none :: r, σ, P, h, x, hx, ws => by obtain ⟨o, σ', e, h⟩ := h; exact RepS.notup h x hx ws
  | some d :: r, σ, P, h, x, hx, ws => by
    obtain ⟨v, σ', P1, P2, e, e2, di, h1, h⟩ := h
    rw [e2] at hx
    exact hx.elim (fun z => Rep.notup d h1 x z ws) (fun z => RepS.notup h x z ws)
/-- a slot in the focus: what it holds, what the others hold, and how it may be put back -/
theorem RepS.focus : ∀ {a : SA} {σ : St} {P : Fp} {i : Nat} {d : D}, RepS S F H a σ P → a[i]? = some (some d) →
    ∃ v P1 P2, σ[i]? = some (some v) ∧ P = Uni P1 P2 ∧ Dis P1 P2 ∧ Rep S F H d v P1 ∧
      (RepS S F H (a.set i none) σ P2) ∧ ∀ (F' H' : Hp) (P2' : Fp), RepS S F' H' (a.set i none) σ P2' → ∀ d' P1', Rep S F' H' d' v P1' → Dis P1' P2' → RepS S F' H' (a.set i (some d')) σ (Uni P1' P2')
  | [], σ, P, i, d, h, e => by simp at e
  | none :: r, σ, P, 0, d, h, e => by simp at e
  | some d0 :: r, σ, P, 0, d, h, e => by
    simp at e; subst e
    obtain ⟨v, σ', P1, P2, rfl, e2, di, h1, h⟩ := h
    refine ⟨v, P1, P2, rfl, e2, di, h1, ⟨_, _, rfl, h⟩, fun F' H' P2' q d' P1' r' n => ?_⟩
    obtain ⟨o, σ2, e3, q⟩ := q
    cases e3
    exact ⟨v, σ', P1', P2', rfl, rfl, n, r', q⟩
  | none :: r, σ, P, i + 1, d, h, e => by
    obtain ⟨o, σ', rfl, h⟩ := h
    obtain ⟨v, P1, P2, e1, e2, di, h1, h2, h3⟩ := RepS.focus (i := i) (d := d) h (by simpa using e)
    refine ⟨v, P1, P2, by simpa using e1, e2, di, h1, ⟨o, σ', rfl, h2⟩, fun F' H' P2' q d' P1' r' n => ?_⟩
    obtain ⟨o', σ2, e3, q⟩ := q
    cases e3
    exact ⟨_, _, rfl, h3 F' H' P2' q d' P1' r' n⟩
  | some d0 :: r, σ, P, i + 1, d, h, e => by
    obtain ⟨v0, σ', P0, PR, rfl, e0, d0i, h0, h⟩ := h
    obtain ⟨v, P1, P2, e1, e2, di, h1, h2, h3⟩ := RepS.focus (i := i) (d := d) h (by simpa using e)
    have dR : Dis P0 P1 ∧ Dis P0 P2 := by
      rw [e2] at d0i
      exact ⟨fun x a b => d0i x a (.inl b), fun x a b => d0i x a (.inr b)⟩
    refine ⟨v, P1, Uni P0 P2, by simpa using e1, ?_, dR.1.symm.uni' di, h1, ⟨v0, σ', P0, P2, rfl, rfl, dR.2, h0, h2⟩, fun F' H' P2' q d' P1' r' n => ?_⟩
    · rw [e0, e2, ← uni_assoc, ← uni_assoc, uni_comm P0 P1]
    · obtain ⟨v1, σ2, Q0, QR, e3, e4, n4, q0, q⟩ := q
      cases e3
      rw [e4] at n
      refine ⟨v0, σ', Q0, Uni P1' QR, rfl, ?_, ?_, q0, h3 F' H' QR q d' P1' r' fun x a b => n x a (.inr b)⟩
      · rw [e4, ← uni_assoc, ← uni_assoc, uni_comm P1' Q0]
      · exact Dis.uni' (fun x a b => n x b (.inl a)) n4
/-- a slot's value forgotten -/
theorem RepS.drop {a : SA} {σ : St} {P : Fp} (h : RepS S F H a σ P) (i : Nat) : ∃ P2, RepS S F H (a.set i none) σ P2 ∧ ∀ x, P2 x → P x := by
  induction a generalizing σ P i with
  | nil => exact ⟨P, by simpa using h, fun _ z => z⟩
  | cons o r ih =>
    cases i with
    | zero =>
      cases o with
      | none => exact ⟨P, by simpa using h, fun _ z => z⟩
      | some d =>
        obtain ⟨v, σ', P1, P2, rfl, e2, di, h1, h⟩ := h
        exact ⟨P2, ⟨_, _, rfl, h⟩, fun x z => by rw [e2]; exact .inr z⟩
    | succ i =>
      cases o with
      | none =>
        obtain ⟨o, σ', rfl, h⟩ := h
        obtain ⟨P2, h2, k⟩ := ih h i
        exact ⟨P2, ⟨_, _, rfl, h2⟩, k⟩
      | some d =>
        obtain ⟨v, σ', P1, P2, rfl, e2, di, h1, h⟩ := h
        obtain ⟨P3, h3, k⟩ := ih h i
        exact ⟨Uni P1 P3, ⟨v, σ', P1, P3, rfl, rfl, fun x a b => di x a (k x b), h1, h3⟩, fun x z => by rw [e2]; exact z.elim .inl fun z => .inr (k x z)⟩
/-- a new value in a slot that holds nothing told -/
theorem RepS.put : ∀ {a : SA} {σ : St} {P : Fp} {i : Nat} {d : D} {v : V} {Pd : Fp}, RepS S F H a σ P → i < a.length → a[i]? = some none → Rep S F H d v Pd → Dis Pd P → RepS S F H (a.set i (some d)) (σ.set i (some v)) (Uni Pd P)
  | [], σ, P, i, d, v, Pd, h, hi, e, r, n => by simp at hi
  | o :: a, σ, P, 0, d, v, Pd, h, hi, e, r, n => by
    simp at e; subst e
    obtain ⟨o, σ', rfl, h⟩ := h
    exact ⟨v, σ', Pd, P, rfl, rfl, n, r, h⟩
  | none :: a, σ, P, i + 1, d, v, Pd, h, hi, e, r, n => by
    obtain ⟨o, σ', rfl, h⟩ := h
    exact ⟨o, _, rfl, RepS.put (i := i) h (by simpa using hi) (by simpa using e) r n⟩
  | some d0 :: a, σ, P, i + 1, d, v, Pd, h, hi, e, r, n => by
    obtain ⟨v0, σ', P1, P2, rfl, e2, di, h1, h⟩ := h
    rw [e2] at n
    refine ⟨v0, _, P1, Uni Pd P2, rfl, ?_, ?_, h1, RepS.put (i := i) h (by simpa using hi) (by simpa using e) r fun x a b => n x a (.inr b)⟩
    · rw [e2, ← uni_assoc, ← uni_assoc, uni_comm Pd P1]
    · exact Dis.uni' (fun x a b => n x b (.inl a)) di
/-- concrete slots changed where nothing is told -/
theorem RepS.other : ∀ {a : SA} {σ : St} {P : Fp} {i : Nat} {o : Option V}, RepS S F H a σ P → (∀ d, a[i]? ≠ some (some d)) → RepS S F H a (σ.set i o) P
  | [], σ, P, i, o, h, e => by
    obtain ⟨rfl, h⟩ := h
    exact ⟨by simp, h⟩
  | none :: a, σ, P, 0, o, h, e => by
    obtain ⟨o', σ', rfl, h⟩ := h
    exact ⟨_, _, rfl, h⟩
  | some d0 :: a, σ, P, 0, o, h, e => (e d0 rfl).elim
  | none :: a, σ, P, i + 1, o, h, e => by
    obtain ⟨o', σ', rfl, h⟩ := h
    exact ⟨_, _, rfl, RepS.other h fun d z => e d (by simpa using z)⟩
  | some d0 :: a, σ, P, i + 1, o, h, e => by
    obtain ⟨v0, σ', P1, P2, rfl, e2, di, h1, h⟩ := h
    exact ⟨v0, _, P1, P2, rfl, e2, di, h1, RepS.other h fun d z => e d (by simpa using z)⟩
end Ab
namespace Ab
open PySem L2

inductive Op2 where | add | sub | mul | fdiv | mod | pow | shl | shr | band | bor
  deriving DecidableEq
inductive Cmp where | eq | ne | lt | le | gt | ge | inn | nin
  deriving DecidableEq
inductive Un where | neg | inv
  deriving DecidableEq
inductive Bi1 where | len | list | tuple | sorted | int | sum | max | min | abs | sset | lset | mint | lrng | trng | sortd | sortt | lend
  deriving DecidableEq
inductive Bi2 where | max | min | cnt | idx | eqi | gcd | ltd
  deriving DecidableEq
inductive Ty where | int | bool | list | tuple | str
  deriving DecidableEq
mutual
inductive ME where
  | slot (i : Nat)
  | non | bl (b : Bool) | int (i : Int) | str (s : Str)
  | glob (x : Str) (i : Int)
  | bin (o : Op2) (a b : ME)
  | un (o : Un) (a : ME)
  | nt (a : ME)
  | cmp (c : Cmp) (a b : ME)
  | chain (c e : Cmp) (a b d : ME)
  | isn (n : Bool) (a : ME)
  | and2 (a b : ME) | or2 (a b : ME)
  | ifx (t : MT) (a b : ME)
  | tup (es : MEs) | lst (es : MEs)
  | sub (a i : ME)
  | slc (a : ME) (lo hi : MO)
  | rev (a : ME)
  | fld (a : ME) (k : Nat)
  | bi1 (f : Bi1) (a : ME)
  | bi2 (f : Bi2) (a b : ME)
  | isi (a : ME) (t : Ty)
  | pop (i : Nat) | popAt (i : Nat) (e : ME)
  | call (f : Nat) (as : MAs)
  | meth (m : Nat) (o : MA) (as : MAs)
  | make (c f : Nat) (as : MAs)
  | comp (own : Nat) (elt : ME) (it : MI) (t : MTo)
  | slcf (a : ME) (lo hi : MO)
  | comp2 (o1 o2 : Nat) (elt : ME) (it : MI) (t : MTo)
  | compw (own : Nat) (elt : ME) (a : ME) (t : MTo)
  | compd (own : Nat) (elt : ME) (i : Nat) (t : MTo)
  | dnew (t : Nat) | dlit (t : Nat) (k a : ME) | dget (a k : ME) | dgetD (a k x : ME)
  | isb (b : Bool) (a : ME)
  | dcs (own : Nat) (a : ME)
  | callc (i : Nat) (as : MAs)
  | hcall (f : Nat) (as : MAs) (t : Nat) (cs : List (Nat × Nat × List Nat))
  | callf (i n : Nat) (js : List Nat) (as : MAs)
  | isc (a : ME) (c : Nat)
inductive MO where | none | some (e : ME)
inductive MEs where | nil | cons (e : ME) (es : MEs)
inductive MA where | rd (e : ME) | bor (i : Nat) | mv (i : Nat) | tok (i : Nat)
inductive MAs where | nil | cons (a : MA) (as : MAs)
inductive MI where | of (e : ME) | r1 (a : ME) | r2 (a b : ME) | r3 (a b c : ME)
inductive MT where
  | val (e : ME) | tru (e : ME) | cmp (c : Cmp) (a b : ME) | chain (c e : Cmp) (a b d : ME) | isn (n : Bool) (a : ME)
  | and (a b : MT) | or (a b : MT) | not (a : MT)
inductive MTo where | none | some (t : MT)
end
/-! targets -/
inductive MG where
  | name (i : Nat) | pair (i j : Nat) | trip (i j k : Nat) | quad (i j k l : Nat)
mutual
inductive MS where
  | asg (i : Nat) (e : ME)
  | asgT (g : MG) (e : ME)
  | asg2 (i j : Nat) (a b : ME)
  | setI (p i e : ME)
  | setH (p i e : ME)
  | swap (p : Nat) (i j a b : ME)
  | setF (o : Nat) (k : Nat) (e : ME)
  | aug (i : Nat) (o : Op2) (e : ME)
  | augI (p i : ME) (o : Op2) (e : ME)
  | augF (o : Nat) (k : Nat) (op : Op2) (e : ME)
  | append (p e : ME) | extend (p e : ME) | reverse (p : ME)
  | expr (e : ME)
  | ite (t : MT) (a b : MSs)
  | forr (g : MG) (it : MI) (b : MSs)
  | whil (t : MT) (b : MSs)
  | brk | cont | pass
  | ret (e : ME) | retN
  | raise (c : Nat)
  | dset (i : Nat) (k e : ME)
  | tryRet (a : ME) (c : Nat) (h : MSs)
  | wth (r i : Nat) (e : ME) (b : MSs)
  | forw (g : MG) (p : ME) (b : MSs)
  | ford (g : MG) (i : Nat) (b : MSs)
  | mov (i j : Nat)
  | frzS (j : Nat)
  | defn (t i n : Nat) (js : List Nat)
inductive MSs where | nil | cons (s : MS) (ss : MSs)
end

/-! ### values -/
def line (n : Nat) : Bool := decide (n < sizeLine)
-- no list, no instance that others may hold too
mutual
def noL : D → Bool
  | .tup ds => noLs ds
  | .lst m ds => m && noLs ds
  | .ins m _ ds => m && noLs ds
  | .scr _ => false
  | .dic m _ _ ds => m && noLs ds
  | .clo _ _ => false
  | .fn _ _ => false
  | .tbs => false
  | _ => true
def noLs : List D → Bool
  | [] => true
  | d :: ds => noL d && noLs ds
end
-- no dict that others may hold too
mutual
def noFd : D → Bool
  | .tup ds => noFds ds
  | .lst _ ds => noFds ds
  | .ins _ _ ds => noFds ds
  | .dic m _ _ ds => m && noFds ds
  | .clo _ _ => false
  | .fn _ _ => false
  | .tbs => false
  | _ => true
def noFds : List D → Bool
  | [] => true
  | d :: ds => noFd d && noFds ds
end
-- no closure
mutual
def noClo : D → Bool
  | .tup ds => noClos ds
  | .lst _ ds => noClos ds
  | .ins _ _ ds => noClos ds
  | .dic _ _ _ ds => noClos ds
  | .clo _ _ => false
  | .scr _ => false
  | _ => true
def noClos : List D → Bool
  | [] => true
  | d :: ds => noClo d && noClos ds
end
-- no function that was made in this frame
mutual
def noFn : D → Bool
  | .tup ds => noFns ds
  | .lst _ ds => noFns ds
  | .ins _ _ ds => noFns ds
  | .dic _ _ _ ds => noFns ds
  | .clo _ ds => noFns ds
  | .fn _ _ => false
  | _ => true
def noFns : List D → Bool
  | [] => true
  | d :: ds => noFn d && noFns ds
end
def noFdS (s : List (Option D)) : Bool := s.all fun o => match o with
  | none => true
  | some d => noFd d
mutual
def toPD : D → PyData
  | .non => .none
  | .bl b => .bool b
  | .int i => .int i
  | .str x => .str x
  | .tup ds => .tuple (toPDs ds)
  | .lst _ ds => .list (toPDs ds)
  | .ins _ _ _ => .none
  | .scr _ => .none
  | .dic _ _ _ _ => .none
  | .clo _ _ => .none
  | .fn _ _ => .none
  | .tbs => .none
def toPDs : List D → List PyData
  | [] => []
  | d :: ds => toPD d :: toPDs ds
end
def eqD (a b : D) : Bool := PyData.eqv (toPD a) (toPD b)
-- data that == is told of
mutual
def plain0 : D → Bool
  | .tup ds => plains0 ds
  | .lst _ ds => plains0 ds
  | .ins _ _ _ => false
  | .scr _ => false
  | .dic _ _ _ _ => false
  | .clo _ _ => false
  | .fn _ _ => false
  | .tbs => false
  | .str x => PyData.strOk x
  | _ => true
def plains0 : List D → Bool
  | [] => true
  | d :: ds => plain0 d && plains0 ds
end
def plain (d : D) : Bool := plain0 d && decide ((toPD d).depth ≤ 60)
def plains (ds : List D) : Bool := plains0 ds && decide (PyData.depthAll (toPDs ds) ≤ 60)
def intsOf : List D → Option (List Int)
  | [] => some []
  | .int i :: ds => (intsOf ds).map (i :: ·)
  | _ => none
def getIx (d : D) (k : Int) : Option D := match d with
  | .lst _ ds => atI ds k
  | .tup ds => atI ds k
  | .scr is => (atI is k).map D.int
  | .str z => if z.length ≤ sizeLine then (atI z.cps.toList k).map fun c => .str ⟨#[c]⟩ else none
  | _ => none
def getFd (d : D) (k : Nat) : Option D := match d with
  | .ins _ c ds => (fldIx c k).bind fun j => ds[j]?
  | _ => none
def methOf : D → Option Nat
  | .ins _ c _ => some c
  | _ => none
def sIx (n d : Nat) : Option Int → Nat := HT.sIx n d
def cut (ds : List D) (lo hi : Option Int) : List D := (ds.drop (sIx ds.length 0 lo)).take (sIx ds.length ds.length hi - sIx ds.length 0 lo)
def cutD (d : D) (lo hi : Option Int) : Option D := match d with
  | .lst _ ds => if stills ds then some (.lst true (cut ds lo hi)) else none
  | .tup ds => some (.tup (cut ds lo hi))
  | _ => none
def small64i (i : Int) : Bool := Nat.ble i.natAbs 18446744073709551615
theorem small64i_iff {i : Int} : small64i i = true ↔ -(2 ^ 64) < i ∧ i < 2 ^ 64 := by
  simp only [small64i, Nat.ble_eq]; omega
def bin (o : Op2) (a b : D) : Option D := match o, a, b with
  | .add, .int i, .int j => some (.int (i + j))
  | .add, .str x, .str y => if x.length + y.length ≤ sizeLine then some (.str (x ++ y)) else none
  | .add, .tup xs, .tup ys => if xs.length + ys.length ≤ sizeLine then some (.tup (xs ++ ys)) else none
  | .add, .lst _ xs, .lst _ ys => if stills xs && stills ys && decide (xs.length + ys.length ≤ sizeLine) then some (.lst true (xs ++ ys)) else none
  | .sub, .int i, .int j => some (.int (i - j))
  | .mul, .int i, .int j => if small64i i || small64i j then some (.int (i * j)) else none
  | .mul, .lst _ xs, .int k => if stills xs && decide (-(2 ^ 63) ≤ k ∧ k < 2 ^ 63 ∧ xs.length * k.toNat ≤ sizeLine) then some (.lst true (List.replicate k.toNat xs).flatten) else none
  | .mul, .tup xs, .int k => if decide (-1000 ≤ k ∧ k ≤ 1000 ∧ xs.length ≤ 1000) then some (.tup (List.replicate k.toNat xs).flatten) else none
  | .fdiv, .int i, .int j => if decide (0 < j ∧ j < 1073741824) then some (.int (i / j)) else none
  | .mod, .int i, .int j => if decide (0 < j) then some (.int (i % j)) else none
  | .pow, .int i, .int j => if decide (0 ≤ j ∧ j ≤ 1000000 ∧ i.natAbs < 2 ^ 64) then some (.int (i ^ j.toNat)) else none
  | .shl, .int i, .int j => if decide (0 ≤ j ∧ j ≤ 1000000 ∧ i.natAbs < 2 ^ 64) then some (.int (i * 2 ^ j.toNat)) else none
  | .shr, .int i, .int j => if decide (0 ≤ j) then some (.int (i / 2 ^ j.toNat)) else none
  | .band, .int i, .int j => some (.int (Builtin.bitAnd i j))
  | .bor, .int i, .int j => some (.int (Builtin.bitOr i j))
  | _, _, _ => none
def itemsOf : D → Option (List D)
  | .lst _ ds => some ds
  | .tup ds => some ds
  | _ => none
def truD : D → Option Bool
  | .int i => some (i != 0)
  | .lst _ ds => some (!ds.isEmpty)
  | .tup ds => some (!ds.isEmpty)
  | .bl b => some b
  | .non => some false
  | _ => none
def isNon : D → Bool
  | .non => true
  | .tbs => true
  | _ => false
def isn (n : Bool) (d : D) : Bool := if n then !isNon d else isNon d
def memD (x : D) (ys : List D) : Bool := ys.any fun y => eqD y x
/-- the value at a key -/
def dval : List D → List D → D → Option D
  | k :: ks, d :: ds, x => if eqD k x then some d else dval ks ds x
  | _, _, _ => none
def dupd : List D → List D → D → D → List D
  | k :: ks, e :: ds, x, d => (if eqD k x then d else e) :: dupd ks ds x d
  | _, _, _, _ => []
def dput (t : Nat) (ks ds : List D) (x d : D) : D := if memD x ks then .dic true t ks (dupd ks ds x d) else .dic true t (ks ++ [x]) (ds ++ [d])
/-- the keys of {x: True for x in ds} -/
def keysD (ds : List D) : List D := ds.foldl (fun acc k => if memD k acc then acc else acc ++ [k]) []
def getK (d k : D) : Option D := match d with
  | .dic _ t ks ds => if kOk t k then dval ks ds k else none
  | _ => none
def getKD (d k x : D) : Option D := match d with
  | .dic _ t ks ds => if kOk t k then some ((dval ks ds k).getD x) else none
  | _ => none
def isDic : D → Bool
  | .dic _ _ _ _ => true
  | _ => false
def isB (b : Bool) : D → Option D
  | .bl c => some (.bl (decide (c = b)))
  | _ => none
def cmp (c : Cmp) (a b : D) : Option Bool := match c with
  | .eq => if plain a && plain b then some (eqD a b) else none
  | .ne => if plain a && plain b then some (!eqD a b) else none
  | .lt => (match a, b with
    | .int i, .int j => some (decide (i < j))
    | .tup xs, .tup ys => (intsOf xs).bind fun is => (intsOf ys).map fun js => HT.lexLt is js
    | _, _ => none)
  | .le => (match a, b with | .int i, .int j => some (decide (i ≤ j)) | _, _ => none)
  | .gt => (match a, b with | .int i, .int j => some (decide (j < i)) | _, _ => none)
  | .ge => (match a, b with | .int i, .int j => some (decide (j ≤ i)) | _, _ => none)
  | .inn => (match b with
    | .dic _ t ks _ => if kOk t a then some (memD a ks) else none
    | b => (itemsOf b).bind fun ds => if plain a && plains ds then some (memD a ds) else none)
  | .nin => (match b with
    | .dic _ t ks _ => if kOk t a then some (!memD a ks) else none
    | b => (itemsOf b).bind fun ds => if plain a && plains ds then some (!memD a ds) else none)
def un (o : Un) (a : D) : Option D := match o, a with
  | .neg, .int i => some (.int (-i))
  | .inv, .int i => some (.int (Builtin.bitNot i))
  | _, _ => none
def maxI : List Int → Option Int
  | [] => none
  | x :: xs => some (xs.foldl (fun m y => if m < y then y else m) x)
def minI : List Int → Option Int
  | [] => none
  | x :: xs => some (xs.foldl (fun m y => if y < m then y else m) x)
def leD (a b : D) : Bool := !PySem.W.dataLt (toPD b) (toPD a)
def sortD (ds : List D) : List D := ds.mergeSort leD
def someTup : D → Bool
  | .tup (_ :: _) => true
  | _ => false
def noTup : D → Bool
  | .tup _ => false
  | .non => false
  | _ => true
def sortable (ds : List D) : Bool := plains ds && (ds.all fun x => ds.all fun y => PySem.W.alike (toPD x) (toPD y)) && (ds.all someTup || ds.all noTup) && decide (ds.length ≤ sizeLine)
/-- the members of a list of ints, ascending -/
def insU (x : Int) : List Int → List Int
  | [] => [x]
  | y :: ys => if x < y then x :: y :: ys else if x = y then y :: ys else y :: insU x ys
def sset : List Int → List Int
  | [] => []
  | x :: xs => insU x (sset xs)
def inR (i : Int) : Bool := Nat.ble i.natAbs 4611686018427387903
theorem inR_iff {i : Int} : inR i = true → -(2 ^ 62) ≤ i ∧ i < 2 ^ 62 := by
  simp only [inR, Nat.ble_eq]; omega
/-- the first of the least of tuples of ints -/
def minK (x : D) (xs : List D) : D := xs.foldl (fun m y => if PySem.W.dataLt (toPD y) (toPD m) then y else m) x
def minT : List D → Option D
  | [] => none
  | x :: xs => if (x :: xs).all (kOk 2) && ((x :: xs).all fun a => (x :: xs).all fun b => PySem.W.alike (toPD a) (toPD b)) then some (minK x xs) else none
def bi1 (f : Bi1) (a : D) : Option D := match f with
  | .len => (match a with | .lst _ ds => some (.int ds.length) | .tup ds => some (.int ds.length) | .scr is => some (.int is.length) | .str z => if z.length ≤ sizeLine then some (.int z.length) else none | _ => none)
  | .list => (match a with | .scr is => some (.lst true (is.map .int)) | _ => (itemsOf a).bind fun ds => if stills ds then some (.lst true ds) else none)
  | .tuple => (itemsOf a).bind fun ds => if stills ds then some (.tup ds) else none
  | .sorted => (match a with | .lst _ ds => if stills ds && (sortable ds || decide (ds.length ≤ 1)) then some (.lst true (sortD ds)) else none | _ => none)
  | .int => (match a with | .int i => some (.int i) | .bl b => some (.int (if b then 1 else 0)) | _ => none)
  | .sum => (match a with | .lst _ ds => (intsOf ds).map fun is => .int is.sum | _ => none)
  | .max => (match a with | .lst _ ds => (intsOf ds).bind fun is => (maxI is).map D.int | _ => none)
  | .min => (match a with | .lst _ ds => (intsOf ds).bind fun is => (minI is).map D.int | _ => none)
  | .abs => (match a with | .int i => some (.int (if i < 0 then -i else i)) | _ => none)
  | .sset => (itemsOf a).bind fun ds => (intsOf ds).bind fun is => if is.length < 64 then some (.lst true ((sset is).map .int)) else none
  | .lset => (match a with | .lst _ ds => (intsOf ds).bind fun is => if is.length < 4000 then some (.int (sset is).length) else none | _ => none)
  | .mint => (match a with | .lst _ ds => minT ds | _ => none)
  | .lrng => (match a with | .int j => if inR j && decide (j ≤ 16777216) then some (.lst true ((List.range j.toNat).map fun (i : Nat) => D.int i)) else none | _ => none)
  | .trng => (match a with | .int j => if inR j && decide (j ≤ 16777216) then some (.tup ((List.range j.toNat).map fun (i : Nat) => D.int i)) else none | _ => none)
  | .lend => (match a with | .dic _ _ ks _ => some (.int ks.length) | _ => none)
  | .sortt => (match a with | .tup ds => if sortable ds then some (.lst true (sortD ds)) else none | _ => none)
  | .sortd => (match a with | .dic _ t ks _ => if decide (t = 0) && decide (ks.length < 64) then (intsOf ks).map fun is => .lst true ((is.mergeSort fun i j => decide (i ≤ j)).map .int) else none | _ => none)
def bi2 (f : Bi2) (a b : D) : Option D := match f with
  | .max => (match a, b with | .int i, .int j => some (.int (if j > i then j else i)) | _, _ => none)
  | .min => (match a, b with | .int i, .int j => some (.int (if j < i then j else i)) | _, _ => none)
  | .cnt => (match a, b with | .lst _ ds, .int k => (intsOf ds).map fun is => .int (is.count k) | _, _ => none)
  | .idx => (match a with | .lst _ ds => if plain b && plain (.lst false ds) then (ds.findIdx? fun y => eqD y b).map fun n => .int n else none | _ => none)
  | .eqi => (match a, b with | .ins _ _ _, .int _ => some (.bl false) | _, _ => none)
  | .ltd => if kOk 2 a && kOk 2 b && PySem.W.alike (toPD a) (toPD b) then some (.bl (PySem.W.dataLt (toPD a) (toPD b))) else none
  | .gcd => (match a, b with | .int i, .int j => some (.int ((Nat.gcd i.natAbs j.natAbs : Nat) : Int)) | _, _ => none)
/-- a method's receiver must be a list -/
def rcv (f : Bi2) (d : D) : Bool := match f, d with
  | .cnt, .lst _ _ => true
  | .idx, .lst _ _ => true
  | .cnt, _ => false
  | .idx, _ => false
  | _, _ => true
def isTy (t : Ty) : D → Option Bool
  | .int _ => some (t = .int)
  | .bl _ => some (t = .int || t = .bool)
  | .lst _ _ => some (t = .list)
  | .tup _ => some (t = .tuple)
  | .str _ => some (t = .str)
  | .non => some false
  | _ => none

/-! ### what a call gives back: its value, the arguments that it may change -/
inductive Res where
  | ok (d : D) (ms : List D) | rz (c : Nat) (ms : List D) | bad
  deriving Inhabited
abbrev Callee := List D → Res
abbrev Env0A := Nat → Option Callee

mutual
def pureE : ME → Bool
  | .bin _ a b => pureE a && pureE b
  | .un _ a => pureE a
  | .nt a => pureE a
  | .cmp _ a b => pureE a && pureE b
  | .chain _ _ a b d => pureE a && pureE b && pureE d
  | .isn _ a => pureE a
  | .and2 a b => pureE a && pureE b
  | .or2 a b => pureE a && pureE b
  | .ifx t a b => pureT t && pureE a && pureE b
  | .tup es => pureEs es
  | .lst es => pureEs es
  | .sub a b => pureE a && pureE b
  | .slc a lo hi => pureE a && pureO lo && pureO hi
  | .rev a => pureE a
  | .fld a _ => pureE a
  | .bi1 _ a => pureE a
  | .bi2 _ a b => pureE a && pureE b
  | .isi a _ => pureE a
  | .pop _ => false
  | .popAt _ _ => false
  | .call _ as => pureAs as
  | .meth _ o as => pureA o && pureAs as
  | .make _ _ as => pureAs as
  | .comp _ e it t => pureE e && pureI it && pureTo t
  | .slcf a lo hi => pureE a && pureO lo && pureO hi
  | .comp2 _ _ e it t => pureE e && pureI it && pureTo t
  | .compw _ e a t => pureE e && pureE a && pureTo t
  | .compd _ _ _ _ => false
  | .dlit _ a b => pureE a && pureE b
  | .dget a b => pureE a && pureE b
  | .dgetD a b c => pureE a && pureE b && pureE c
  | .isb _ a => pureE a
  | .dcs _ a => pureE a
  | .callc _ _ => false
  | .hcall _ _ _ _ => false
  | .callf _ _ _ _ => false
  | .isc a _ => pureE a
  | _ => true
def pureO : MO → Bool
  | .none => true
  | .some e => pureE e
def pureEs : MEs → Bool
  | .nil => true
  | .cons e es => pureE e && pureEs es
def pureA : MA → Bool
  | .rd e => pureE e
  | .bor _ => true
  | .mv _ => false
  | .tok _ => false
def pureAs : MAs → Bool
  | .nil => true
  | .cons a as => pureA a && pureAs as
def pureI : MI → Bool
  | .of e => pureE e
  | .r1 a => pureE a
  | .r2 a b => pureE a && pureE b
  | .r3 a b c => pureE a && pureE b && pureE c
def pureT : MT → Bool
  | .val e => pureE e
  | .tru e => pureE e
  | .cmp _ a b => pureE a && pureE b
  | .chain _ _ a b d => pureE a && pureE b && pureE d
  | .isn _ a => pureE a
  | .and a b => pureT a && pureT b
  | .or a b => pureT a && pureT b
  | .not a => pureT a
def pureTo : MTo → Bool
  | .none => true
  | .some t => pureT t
end
def rootOf : ME → Option Nat
  | .slot i => some i
  | .sub a _ => rootOf a
  | .fld a _ => rootOf a
  | _ => none
def slotOf : ME → Option Nat
  | .slot i => some i
  | _ => none

def Er.bind {α β : Type} (x : Er α) (f : α → SA → Er β) : Er β := match x with
  | .ok a s => f a s
  | .rz c s => .rz c s
  | .bad => .bad
def Er.noRz {α : Type} (x : Er α) : Er α := match x with
  | .rz _ _ => .bad
  | x => x
def Er.of {α : Type} (o : Option α) (s : SA) : Er α := match o with
  | some a => .ok a s
  | none => .bad
def rd (s : SA) (i : Nat) : Option D := (s[i]?).join
/-- a value that others will hold too -/
def own (v : Bool) (r : Option Nat) (d : D) (s : SA) : Er D :=
  if v || still d then .ok d s else match r with
    | some i => (match rd s i with | some d0 => .ok (frz d) (s.set i (some (frz d0))) | none => .bad)
    | none => .bad
/-- the first of two operands, when the second is reckoned -/
def stay (a : ME) (d1 : D) (pureb : Bool) (s2 : SA) : Option D :=
  if pureb || still d1 || (rootOf a).isNone then some d1 else (slotOf a).bind (rd s2)

-- a value that stands in no slot: it may be shared from now on
def tmpz (a : ME) (d : D) : D := if (rootOf a).isNone then frz d else d

inductive AV where | val (d : D) | bor (i : Nat) | mv (i : Nat)
def avD (s : SA) : AV → Option D
  | .val d => some (frz d)
  | .bor i => (rd s i).map frz
  | .mv i => rd s i
def avDs (s : SA) : List AV → Option (List D)
  | [] => some []
  | a :: as => (avD s a).bind fun d => (avDs s as).map (d :: ·)
def mvs : List AV → List Nat
  | [] => []
  | .mv i :: as => i :: mvs as
  | _ :: as => mvs as
def bors : List AV → List Nat
  | [] => []
  | .bor i :: as => i :: bors as
  | _ :: as => bors as
def nodupB : List Nat → Bool
  | [] => true
  | i :: is => !is.contains i && nodupB is
def setMs : List Nat → List D → SA → Option SA
  | [], [], s => some s
  | i :: is, m :: ms, s => setMs is ms (s.set i (some m))
  | _, _, _ => none
/-- each slot is handed on once, where it may be changed -/
def okAV (as : List AV) : Bool := nodupB (mvs as) && (mvs as).all fun i => !(bors as).contains i
/-- what is lent is shared already -/
def lent (as : List AV) (s : SA) : Bool := (bors as).all fun i => match rd s i with | some d => still d | none => false
def called (g : Callee) (as : List AV) (s : SA) : Er D := match avDs s as with
  | none => .bad
  | some ds => if okAV as then match g ds with
    | .ok d ms => if lent as s || (noL d && noLs ms) then (match setMs (mvs as) ms s with | some s' => .ok d s' | none => .bad) else .bad
    | .rz c ms => if lent as s || noLs ms then (match setMs (mvs as) ms s with | some s' => .rz c s' | none => .bad) else .bad
    | .bad => .bad
    else .bad

def made (g : Callee) (c : Nat) (avs : List AV) (s1 : SA) : Er D := match avDs s1 avs with
  | none => .bad
  | some ds => if (mvs avs).isEmpty then match g (.ins true c [] :: ds) with
    | .ok .non [self] => if lent avs s1 || noL self then .ok self s1 else .bad
    | .rz x [self] => if lent avs s1 || noL self then .rz x s1 else .bad
    | _ => .bad
    else .bad
/-- a closure's call -/
def calledC (g : Callee) (cap : List D) (avs : List AV) (s : SA) : Er D := match avDs s avs with
  | none => .bad
  | some ds => if (mvs avs).isEmpty && (bors avs).isEmpty && noClos ds then match g (ds ++ cap) with
    | .ok d [] => .ok d s
    | _ => .bad
    else .bad
def rds (s : SA) : List Nat → Option (List D)
  | [] => some []
  | i :: is => (rd s i).bind fun d => (rds s is).map (d :: ·)
/-- an instance of this class -/
def isCls (c : Nat) : D → Bool
  | .ins _ k _ => decide (k = c)
  | _ => false
/-- the function n of this frame -/
def isFn (n : Nat) (js : List Nat) : Option D → Bool
  | some (.fn m is) => decide (m = n) && decide (is = js)
  | _ => false
/-- closures that are handed on: what each captured -/
def capsC (s : SA) : List (Nat × Nat × List Nat) → Option (List D)
  | [] => some []
  | c :: cs => if isFn c.2.1 c.2.2 (rd s c.1) then (rds s c.2.2).bind fun ds => if stills ds && noFns ds then (capsC s cs).map (.clo c.2.1 ds :: ·) else none else none
def isTbs : D → Bool
  | .tbs => true
  | _ => false
def tbsIn : Option D → Bool
  | some d => isTbs d
  | none => false
/-- a call that is handed closures, and the tables last -/
def calledH (g : Callee) (t : Nat) (cs : List (Nat × Nat × List Nat)) (avs : List AV) (s : SA) : Er D := match avDs s avs, capsC s cs with
  | some ds, some cl => if (mvs avs).isEmpty && (bors avs).isEmpty && noFns ds && tbsIn (rd s t) then match g (ds ++ (cl ++ [.tbs])) with
    | .ok d [m] => if noClo d && noFn d && isTbs m then .ok d s else .bad
    | _ => .bad
    else .bad
  | _, _ => .bad
def rangeN (lo : Int) (n : Nat) : List D := (List.range n).map fun (i : Nat) => D.int (lo + (i : Int))
def range3 (lo hi c : Int) : Option (List D) :=
  if c ≠ 0 ∧ c.natAbs < 1073741824 ∧ Builtin.Range.small lo hi c = true ∧ 0 ≤ Builtin.Range.rangeSize lo hi c then
    some ((List.range (Builtin.Range.rangeSize lo hi c).toNat).map fun (i : Nat) => D.int (lo + (i : Int) * c))
  else none

inductive It where | vals (ds : List D) | live (i : Nat)
def compV (W : Nat) (f : SA → Er Bool) (g : SA → Er D) (own i : Nat) : Nat → Nat → SA → Er (List D)
  | 0, _, _ => .bad
  | n + 1, k, s => match rd s i with
    | some (.lst _ ds) => (match ds[k]? with
      | none => .ok [] s
      | some x => if still x && !(own == i) && decide (ds.length ≤ sizeLine) then (f (s.set own (some x))).bind fun c s1 =>
          if c then (g s1).bind fun y s2 => (compV W f g own i n (k + 1) (s2.set own none)).bind fun ys s3 => .ok (y :: ys) s3
          else compV W f g own i n (k + 1) (s1.set own none)
        else .bad)
    | _ => .bad
def compL (f : SA → Er Bool) (g : SA → Er D) (own : Nat) : List D → SA → Er (List D)
  | [], s => .ok [] s
  | x :: xs, s => (f (s.set own (some x))).bind fun c s1 =>
      if c then (g s1).bind fun y s2 => (compL f g own xs (s2.set own none)).bind fun ys s3 => .ok (y :: ys) s3
      else compL f g own xs (s1.set own none)
/-- a comprehension over pairs -/
def compP (f : SA → Er Bool) (g : SA → Er D) (o1 o2 : Nat) : List D → SA → Er (List D)
  | [], s => .ok [] s
  | x :: xs, s => match x with
    | .tup [d1, d2] => (f ((s.set o1 (some d1)).set o2 (some d2))).bind fun c s1 =>
      if c then (g s1).bind fun y s2 => (compP f g o1 o2 xs ((s2.set o2 none).set o1 none)).bind fun ys s3 => .ok (y :: ys) s3
      else compP f g o1 o2 xs ((s1.set o2 none).set o1 none)
    | _ => .bad
section
variable (G : Env0A) (W : Nat)
mutual
def ev (v : Bool) : ME → SA → Er D
  | .slot i, s => (match rd s i with
    | some d => own v (some i) d s
    | none => .bad)
  | .non, s => .ok .non s
  | .bl b, s => .ok (.bl b) s
  | .int i, s => .ok (.int i) s
  | .str x, s => .ok (.str x) s
  | .glob _ i, s => .ok (.int i) s
  | .bin o a b, s => (ev true a s).bind fun d1 s1 => (ev true b s1).bind fun d2 s2 => Er.of ((stay a d1 (pureE b) s2).bind fun d1 => bin o (tmpz a d1) (tmpz b d2)) s2
  | .un o a, s => (ev true a s).bind fun d s1 => Er.of (un o d) s1
  | .nt a, s => (ev true a s).bind fun d s1 => (match d with | .bl b => .ok (.bl !b) s1 | _ => .bad)
  | .cmp c a b, s => (ev true a s).bind fun d1 s1 => (ev true b s1).bind fun d2 s2 => Er.of ((stay a d1 (pureE b) s2).bind fun d1 => (cmp c d1 d2).map D.bl) s2
  | .chain c e a b d, s => (ev true a s).bind fun d1 s1 => (ev true b s1).bind fun d2 s2 => (match d1, d2 with
    | .int i, .int j => (match cmp c (.int i) (.int j) with
      | some true => (ev true d s2).bind fun d3 s3 => (match d3 with | .int k => Er.of ((cmp e (.int j) (.int k)).map D.bl) s3 | _ => .bad)
      | some false => .ok (.bl false) s2
      | none => .bad)
    | _, _ => .bad)
  | .isn n a, s => (ev true a s).bind fun d s1 => .ok (.bl (isn n d)) s1
  | .and2 a b, s => (ev true a s).bind fun d s1 => (match d with | .bl true => (ev true b s1).bind fun d s2 => (match d with | .bl c => .ok (.bl c) s2 | _ => .bad) | .bl false => .ok (.bl false) s1 | _ => .bad)
  | .or2 a b, s => (ev true a s).bind fun d s1 => (match d with | .bl false => (ev true b s1).bind fun d s2 => (match d with | .bl c => .ok (.bl c) s2 | _ => .bad) | .bl true => .ok (.bl true) s1 | _ => .bad)
  | .ifx t a b, s => (evT t s).bind fun c s1 => if c then ev false a s1 else ev false b s1
  | .tup es, s => (evs es s).bind fun ds s1 => if ds.length ≤ sizeLine then .ok (.tup (frzs ds)) s1 else .bad
  | .lst es, s => (evs es s).bind fun ds s1 => if ds.length ≤ sizeLine then .ok (.lst true ds) s1 else .bad
  | .sub a i, s => (ev true a s).bind fun d1 s1 => (ev true i s1).bind fun d2 s2 => (match d2 with
    | .int k => (match (stay a d1 (pureE i) s2).bind fun d1 => getIx d1 k with
      | some d => own v none d s2
      | none => .bad)
    | _ => .bad)
  | .slc a lo hi, s => (ev true a s).bind fun d1 s1 => (evO lo s1).bind fun l s2 => (evO hi s2).bind fun h s3 =>
      Er.of ((stay a d1 (pureO lo && pureO hi) s3).bind fun d => cutD d l h) s3
  | .slcf a lo hi, s => (ev false a s).bind fun d1 s1 => (evO lo s1).bind fun l s2 => (evO hi s2).bind fun h s3 =>
      Er.of (if still d1 then cutD d1 l h else none) s3
  | .rev a, s => (ev true a s).bind fun d s1 => (match d with
    | .lst _ ds => if stills ds then .ok (.lst true ds.reverse) s1 else .bad
    | _ => .bad)
  | .fld a k, s => (ev true a s).bind fun d s1 => (match getFd d k with
    | some d => own v none d s1
    | none => .bad)
  | .bi1 f a, s => (ev true a s).bind fun d s1 => Er.of (bi1 f (tmpz a d)) s1
  | .bi2 f a b, s => (ev true a s).bind fun d1 s1 => if rcv f d1 then (ev true b s1).bind fun d2 s2 => Er.of ((stay a d1 (pureE b) s2).bind fun d1 => bi2 f d1 d2) s2 else .bad
  | .isi a t, s => (ev true a s).bind fun d s1 => Er.of ((isTy t d).map D.bl) s1
  | .pop i, s => (match rd s i with
    | some (.lst true ds) => (match ds[ds.length - 1]? with
      | some d => .ok d (s.set i (some (.lst true ds.dropLast)))
      | none => .bad)
    | _ => .bad)
  | .popAt i e, s => (match rd s i with
    | some (.lst true _) => (ev true e s).bind fun k s1 => (match k, rd s1 i with
      | .int k, some (.lst true ds) => (match ixN ds.length k with
        | some j => if ds.length ≤ sizeLine then (match ds[j]? with
          | some d => .ok d (s1.set i (some (.lst true (ds.eraseIdx j))))
          | none => .bad) else .bad
        | none => .bad)
      | _, _ => .bad)
    | _ => .bad)
  | .call f as, s => (match G f with
    | some g => (evAs as s).bind fun avs s1 => called g avs s1
    | none => .bad)
  | .meth m o as, s => (evA o s).bind fun av s1 => (match (avD s1 av).bind methOf with
    | some c => (match (MTD c m).bind G with
      | some g => (evAs as s1).bind fun avs s2 => called g (av :: avs) s2
      | none => .bad)
    | none => .bad)
  | .make c f as, s => (match G f with
    | some g => (evAs as s).bind fun avs s1 => made g c avs s1
    | none => .bad)
  | .comp own elt it t, s => (evI it s).bind fun ds s1 =>
      (match ds with
      | .vals ds => if !decide (ds.length ≤ sizeLine) then Er.bad else compL (fun s => (evTo t s).noRz) (fun s => (ev false elt s).noRz) own ds (s1.set own none)
      | .live i => compV W (fun s => (evTo t s).noRz) (fun s => (ev false elt s).noRz) own i W 0 (s1.set own none)).bind fun ys s2 => .ok (.lst true ys) (s2.set own (s1[own]?).join)
  | .comp2 o1 o2 elt it t, s => (evI it s).bind fun ds s1 =>
      (match ds with
      | .vals ds => if !decide (ds.length ≤ sizeLine) || decide (o1 = o2) then Er.bad else compP (fun s => (evTo t s).noRz) (fun s => (ev false elt s).noRz) o1 o2 ds ((s1.set o2 none).set o1 none)
      | .live _ => .bad).bind fun ys s2 => .ok (.lst true ys) ((s2.set o1 (s1[o1]?).join).set o2 (s1[o2]?).join)
  | .compw own elt a t, s => (ev true a s).bind fun d s1 => (match itemsOf d with
      | some ds => if stills ds && decide (ds.length ≤ sizeLine) && pureE elt && pureTo t then (compL (fun s => (evTo t s).noRz) (fun s => (ev false elt s).noRz) own ds (s1.set own none)).bind fun ys s2 => .ok (.lst true ys) (s2.set own (s1[own]?).join) else .bad
      | none => .bad)
  | .compd own elt i t, s => (match rd s i with
    | some (.dic true kt ks ds) => if stills ds && noFds ds && pureE elt && pureTo t && !(own == i) && decide (ks.length ≤ sizeLine) then
        (compL (fun s => (evTo t s).noRz) (fun s => (ev false elt s).noRz) own ks ((s.set i (some (.dic false kt ks ds))).set own none)).bind fun ys s2 =>
          if noFds ys && noFdS ((s2.set own (s[own]?).join).set i none) then .ok (.lst true ys) ((s2.set own (s[own]?).join).set i (some (.dic true kt ks ds))) else .bad
      else .bad
    | _ => .bad)
  | .dnew t, s => .ok (.dic true t [] []) s
  | .dlit t a b, s => (ev true a s).bind fun k s1 => (ev false b s1).bind fun d s2 => if kOk t k && still d then .ok (.dic true t [k] [d]) s2 else .bad
  | .dget a i, s => (ev true a s).bind fun d1 s1 => (ev true i s1).bind fun k s2 => (match (stay a d1 (pureE i) s2).bind fun d1 => getK d1 k with
    | some d => if still d then .ok d s2 else .bad
    | none => .bad)
  | .dgetD a i x, s => (ev true a s).bind fun d1 s1 => if !isDic d1 then .bad else (ev true i s1).bind fun k s2 => (ev false x s2).bind fun dx s3 => (match (stay a d1 (pureE i && pureE x) s3).bind fun d1 => getKD d1 k dx with
    | some d => if still dx && still d then .ok d s3 else .bad
    | none => .bad)
  | .isb b a, s => (ev true a s).bind fun d s1 => Er.of (isB b d) s1
  | .dcs own a, s => (ev true a s).bind fun d s1 => (match itemsOf d with
    | some ds => if ds.all (kOk 0) && decide (ds.length ≤ sizeLine) && decide (own < s1.length) then .ok (.dic true 0 (keysD ds) ((keysD ds).map fun _ => .bl true)) s1 else .bad
    | none => .bad)
  | .callc i as, s => (match rd s i with
    | some (.clo n cap) => (match G n with
      | some g => (evAs as s).bind fun avs s1 => calledC g cap avs s1
      | none => .bad)
    | _ => .bad)
  | .hcall f as t cs, s => if !(cs.all fun c => isFn c.2.1 c.2.2 (rd s c.1)) then .bad else (match G f with
    | some g => (evAs as s).bind fun avs s1 => calledH g t cs avs s1
    | none => .bad)
  | .callf i n js as, s => if isFn n js (rd s i) then (match G n with
    | some g => (evAs as s).bind fun avs s1 => (match rds s1 js with
      | some cap => if stills cap && noFns cap then calledC g cap avs s1 else .bad
      | none => .bad)
    | none => .bad) else .bad
  | .isc a c, s => (ev true a s).bind fun d s1 => if isCls c d then .ok (.bl true) s1 else .bad
def evO : MO → SA → Er (Option Int)
  | .none, s => .ok none s
  | .some e, s => (ev true e s).bind fun d s1 => (match d with | .int i => .ok (some i) s1 | _ => .bad)
def evs : MEs → SA → Er (List D)
  | .nil, s => .ok [] s
  | .cons e es, s => (ev false e s).bind fun d s1 => (evs es s1).bind fun ds s2 => .ok (d :: ds) s2
def evA : MA → SA → Er AV
  | .rd e, s => (ev false e s).bind fun d s1 => .ok (.val d) s1
  | .bor i, s => (match rd s i with | some _ => .ok (.bor i) s | none => .bad)
  | .mv i, s => (match rd s i with | some _ => .ok (.mv i) s | none => .bad)
  | .tok i, s => if tbsIn (rd s i) then .ok (.mv i) s else .bad
def evAs : MAs → SA → Er (List AV)
  | .nil, s => .ok [] s
  | .cons a as, s => (evA a s).bind fun x s1 => (evAs as s1).bind fun xs s2 => .ok (x :: xs) s2
def evI : MI → SA → Er It
  | .of e, s => (match slotOf e, (slotOf e).bind (rd s) with
    | some i, some (.lst true ds) => if stills ds then .ok (.live i) s else (ev false e s).bind fun d s1 => Er.of ((itemsOf (frz d)).map It.vals) s1
    | _, _ => (ev false e s).bind fun d s1 => Er.of ((itemsOf (frz d)).map It.vals) s1)
  | .r1 a, s => (ev true a s).bind fun d s1 => (match d with | .int j => if inR j then .ok (.vals (rangeN 0 j.toNat)) s1 else .bad | _ => .bad)
  | .r2 a b, s => (ev true a s).bind fun d s1 => (ev true b s1).bind fun d2 s2 => (match d, d2 with
    | .int i, .int j => if inR i && inR j then .ok (.vals (rangeN i (j - i).toNat)) s2 else .bad | _, _ => .bad)
  | .r3 a b c, s => (ev true a s).bind fun d s1 => (ev true b s1).bind fun d2 s2 => (ev true c s2).bind fun d3 s3 => (match d, d2, d3 with
    | .int i, .int j, .int k => Er.of ((range3 i j k).map It.vals) s3 | _, _, _ => .bad)
def evT : MT → SA → Er Bool
  | .val e, s => (ev true e s).bind fun d s1 => (match d with | .bl b => .ok b s1 | _ => .bad)
  | .tru e, s => (ev true e s).bind fun d s1 => Er.of (truD d) s1
  | .cmp c a b, s => (ev true a s).bind fun d1 s1 => (ev true b s1).bind fun d2 s2 => Er.of ((stay a d1 (pureE b) s2).bind fun d1 => cmp c d1 d2) s2
  | .chain c e a b d, s => (ev true a s).bind fun d1 s1 => (ev true b s1).bind fun d2 s2 => (match d1, d2 with
    | .int i, .int j => (match cmp c (.int i) (.int j) with
      | some true => (ev true d s2).bind fun d3 s3 => (match d3 with | .int k => Er.of (cmp e (.int j) (.int k)) s3 | _ => .bad)
      | some false => .ok false s2
      | none => .bad)
    | _, _ => .bad)
  | .isn n a, s => (ev true a s).bind fun d s1 => .ok (isn n d) s1
  | .and a b, s => (evT a s).bind fun c s1 => if c then evT b s1 else .ok false s1
  | .or a b, s => (evT a s).bind fun c s1 => if c then .ok true s1 else evT b s1
  | .not a, s => (evT a s).bind fun c s1 => .ok (!c) s1
def evTo : MTo → SA → Er Bool
  | .none, s => .ok true s
  | .some t, s => evT t s
end
end
end Ab
namespace Ab
open PySem L2

inductive Key where | ix (k : Int) | fd (k : Nat)
inductive Fl where
  | nx (s : SA) | rt (d : D) (s : SA) | bk (s : SA) | ct (s : SA) | rz (c : Nat) (s : SA) | bad
  deriving Inhabited
def updD : List Key → (D → Option D) → D → Option D
  | [], f, d => f d
  | .ix k :: ks, f, .lst true ds => (ixN ds.length k).bind fun j => (ds[j]?).bind fun d => (updD ks f d).map fun d' => .lst true (ds.set j d')
  | .fd k :: ks, f, .ins true c ds => (fldIx c k).bind fun j => (ds[j]?).bind fun d => (updD ks f d).map fun d' => .ins true c (ds.set j d')
  | _, _, _ => none
def updS (i : Nat) (ks : List Key) (f : D → Option D) (s : SA) : Option SA := (rd s i).bind fun d => (updD ks f d).map fun d' => s.set i (some d')
-- through what is held alone
def getP : List Key → D → Option D
  | [], d => some d
  | .ix k :: ks, .lst true ds => (ixN ds.length k).bind fun j => (ds[j]?).bind (getP ks)
  | .fd k :: ks, .ins true c ds => (fldIx c k).bind fun j => (ds[j]?).bind (getP ks)
  | _, _ => none
def chkP (q : Nat × List Key) (s : SA) : Er (Nat × List Key) := match (rd s q.1).bind (getP q.2) with
  | some _ => .ok q s
  | none => .bad
def lstP (q : Nat × List Key) (s : SA) : Bool := match (rd s q.1).bind (getP q.2) with
  | some (.lst true _) => true
  | _ => false
def augD (o : Op2) (a b : D) : Option D := match o, a, b with
  | .add, .int i, .int j => some (.int (i + j))
  | .sub, .int i, .int j => some (.int (i - j))
  | _, _, _ => none
def getD1 : List Key → D → Option D
  | [], d => some d
  | .ix k :: ks, d => (getIx d k).bind (getD1 ks)
  | .fd k :: ks, d => (getFd d k).bind (getD1 ks)
def fSet (k : Int) (x : D) : D → Option D
  | .lst true ds => (ixN ds.length k).map fun j => .lst true (ds.set j x)
  | _ => none
def fApp (x : D) : D → Option D
  | .lst true ds => if line ds.length then some (.lst true (ds ++ [x])) else none
  | _ => none
def fExt (xs : List D) : D → Option D
  | .lst true ds => if stills xs && decide (ds.length + xs.length ≤ sizeLine) then some (.lst true (ds ++ xs)) else none
  | _ => none
def fRev : D → Option D
  | .lst true ds => some (.lst true ds.reverse)
  | _ => none
def fFld (k : Nat) (x : D) : D → Option D
  | .ins true c ds => (fldIx c k).bind fun j => if j < ds.length then some (.ins true c (ds.set j x)) else if j = ds.length then some (.ins true c (ds ++ [x])) else none
  | _ => none
def setN (s : SA) : List Nat → List D → Option SA
  | [], [] => some s
  | i :: is, d :: ds => setN (s.set i (some d)) is ds
  | _, _ => none
def MG.slots : MG → List Nat
  | .name i => [i]
  | .pair i j => [i, j]
  | .trip i j k => [i, j, k]
  | .quad i j k l => [i, j, k, l]
def asgG (g : MG) (x : D) (s : SA) : Option SA := match g with
  | .name i => some (s.set i (some x))
  | _ => (match x with | .tup ds => setN s g.slots ds | _ => none)
def forL (st : SA → Fl) (g : MG) : List D → SA → Fl
  | [], s => .nx s
  | x :: xs, s => match asgG g x s with
    | none => .bad
    | some s1 => match st s1 with
      | .nx s2 => forL st g xs s2
      | .ct s2 => forL st g xs s2
      | .bk s2 => .nx s2
      | r => r
def forV (st : SA → Fl) (g : MG) (i : Nat) : Nat → Nat → SA → Fl
  | 0, _, _ => .bad
  | n + 1, k, s => match rd s i with
    | some (.lst _ ds) => (match ds[k]? with
      | none => .nx s
      | some x => if still x && !(g.slots.contains i) then (match asgG g x s with
        | none => .bad
        | some s1 => match st s1 with
          | .nx s2 => forV st g i n (k + 1) s2
          | .ct s2 => forV st g i n (k + 1) s2
          | .bk s2 => .nx s2
          | r => r)
        else .bad)
    | _ => .bad
def whileL (c : SA → Er Bool) (st : SA → Fl) : Nat → SA → Fl
  | 0, _ => .bad
  | n + 1, s => match c s with
    | .ok true s1 => (match st s1 with
      | .nx s2 => whileL c st n s2
      | .ct s2 => whileL c st n s2
      | .bk s2 => .nx s2
      | r => r)
    | .ok false s1 => .nx s1
    | .rz x s1 => .rz x s1
    | .bad => .bad
def Er.fl {α : Type} (x : Er α) (f : α → SA → Fl) : Fl := match x with
  | .ok a s => f a s
  | .rz c s => .rz c s
  | .bad => .bad
def nxt (r : Fl) (K : SA → Fl) : Fl := match r with
  | .nx s => K s
  | r => r
def Fl.of (o : Option SA) : Fl := match o with
  | some s => .nx s
  | none => .bad
/-- a text that only counts when it is written out: the sizes of the small data -/
def flat : D → Bool
  | .int _ => true
  | .bl _ => true
  | .str _ => true
  | .non => true
  | _ => false

section
variable (G : Env0A) (W : Nat)
def evP : ME → SA → Er (Nat × List Key)
  | .slot i, s => chkP (i, []) s
  | .sub a e, s => (evP a s).bind fun p s1 => if pureE e || p.2.isEmpty then (ev G W true e s1).bind fun d s2 => (match d with | .int k => chkP (p.1, p.2 ++ [.ix k]) s2 | _ => .bad) else .bad
  | .fld a k, s => (evP a s).bind fun p s1 => chkP (p.1, p.2 ++ [.fd k]) s1
  | _, _ => .bad
/-- a store of a value that nobody holds alone into a list in a slot -/
def stI (p : Nat) (i : ME) (d : D) (s : SA) : Fl := (evP G W (.slot p) s).fl fun q s1 => (ev G W true i s1).fl fun k s2 => (match k with
  | .int k => Fl.of (updS q.1 q.2 (fSet k d) s2)
  | _ => .bad)
/-- a list within a list in a slot -/
def holeS (i : Nat) (k : Int) (s : SA) : Option (Nat × List D × List D) := match rd s i with
  | some (.lst true ds) => (ixN ds.length k).bind fun j => (match ds[j]? with
    | some (.lst true xs) => some (j, ds, xs)
    | _ => none)
  | _ => none
/-- what is walked in a slot that is hidden meanwhile -/
def walkS (q : Nat × List Key) (s : SA) : Option (List D) := match (rd s q.1).bind (getP q.2) with
  | some (.lst true ds) => if stills ds then some ds else none
  | _ => none
def backW (i : Nat) (o : Option D) : Fl → Fl
  | .nx s2 => (match rd s2 i with
    | none => .nx (s2.set i o)
    | _ => .bad)
  | _ => .bad
/-- a dict that was walked is its owner's again -/
def backD (i : Nat) (d : D) : Fl → Fl
  | .nx s2 => if noFdS (s2.set i none) then .nx (s2.set i (some d)) else .bad
  | _ => .bad
/-- it is put back -/
def backS (r i j : Nat) (ds : List D) : Fl → Fl
  | .nx s2 => (match rd s2 r, rd s2 i with
    | some d, none => .nx ((s2.set r none).set i (some (.lst true (ds.set j d))))
    | _, _ => .bad)
  | _ => .bad
/-- the tables stand in a slot -/
def tbsAt (t : Nat) (s : SA) : Bool := tbsIn (rd s t)
/-- slots that are shared from now on -/
def frzL : List Nat → SA → Option SA
  | [], s => some s
  | j :: js, s => (match rd s j with
    | some d => frzL js (s.set j (some (frz d)))
    | none => none)
mutual
def ex (fix : List Nat) : MS → SA → Fl
  | .asg i e, s => if fix.contains i then .bad else (ev G W false e s).fl fun d s1 => .nx (s1.set i (some d))
  | .asgT g e, s => if g.slots.any fix.contains then .bad else (ev G W false e s).fl fun d s1 => Fl.of (asgG g (frz d) s1)
  | .asg2 i j a b, s => if fix.contains i || fix.contains j then .bad else (ev G W false a s).fl fun d s1 => (ev G W false b s1).fl fun d2 s2 => .nx ((s2.set i (some d)).set j (some d2))
  | .setI p i e, s => (ev G W false e s).fl fun d s1 => (evP G W p s1).fl fun q s2 => (ev G W true i s2).fl fun k s3 => (match k with
    | .int k => if pureE i || q.2.isEmpty then Fl.of (updS q.1 q.2 (fSet k d) s3) else .bad
    | _ => .bad)
  | .setH p i e, s => (ev G W false e s).fl fun d s1 => (evP G W p s1).fl fun q s2 => (ev G W true i (s2.set q.1 none)).noRz.fl fun k s3 => (match k, rd s3 q.1 with
    | .int k, none => Fl.of (updS q.1 q.2 (fSet k d) (s3.set q.1 (rd s2 q.1)))
    | _, _ => .bad)
  | .swap p i j a b, s => (ev G W false (.tup (.cons a (.cons b .nil))) s).fl fun d s1 => (match d with
    | .tup [d1, d2] => nxt (stI G W p i d1 s1) fun s2 => nxt (stI G W p j d2 s2) .nx
    | _ => .bad)
  | .setF o k e, s => (ev G W false e s).fl fun d s1 => Fl.of (updS o [] (fFld k d) s1)
  | .aug i o e, s => if fix.contains i then .bad else (match rd s i with
    | some d1 => if flat d1 then (ev G W true e s).fl fun d2 s1 => (match augD o d1 d2 with | some d => .nx (s1.set i (some d)) | none => .bad) else .bad
    | none => .bad)
  | .augI p i o e, s => (evP G W p s).fl fun q s1 => (ev G W true i s1).fl fun k s2 => (match k with
    | .int k => (match (rd s2 q.1).bind (getP (q.2 ++ [.ix k])) with
      | some d1 => if flat d1 && pureE i && pureE e then (ev G W true e s2).fl fun d2 s3 => (match augD o d1 d2 with | some d => Fl.of (updS q.1 q.2 (fSet k d) s3) | none => .bad) else .bad
      | none => .bad)
    | _ => .bad)
  | .augF o k op e, s => (match (rd s o).bind (getD1 [.fd k]) with
    | some d1 => if flat d1 && pureE e then (ev G W true e s).fl fun d2 s1 => (match augD op d1 d2 with | some d => Fl.of (updS o [] (fFld k d) s1) | none => .bad) else .bad
    | none => .bad)
  | .append p e, s => (evP G W p s).fl fun q s1 => if lstP q s1 then (ev G W false e s1).fl fun d s2 => if pureE e || q.2.isEmpty then Fl.of (updS q.1 q.2 (fApp d) s2) else .bad else .bad
  | .extend p e, s => (evP G W p s).fl fun q s1 => if lstP q s1 then (ev G W true e s1).fl fun d s2 => if pureE e then (match d with
    | .lst _ xs => Fl.of (updS q.1 q.2 (fExt xs) s2)
    | _ => .bad) else .bad else .bad
  | .reverse p, s => (evP G W p s).fl fun q s1 => if lstP q s1 then Fl.of (updS q.1 q.2 fRev s1) else .bad
  | .expr e, s => (ev G W false e s).fl fun _ s1 => .nx s1
  | .ite t a b, s => (evT G W t s).fl fun c s1 => if c then exs fix a s1 else exs fix b s1
  | .forr g it b, s => (evI G W it s).fl fun ds s1 => (match ds with
    | .vals ds => if g.slots.any fix.contains then .bad else forL (fun s => exs fix b s) g ds s1
    | .live i => if g.slots.any fix.contains then .bad else forV (fun s => exs (i :: fix) b s) g i W 0 s1)
  | .whil t b, s => whileL (fun s => evT G W t s) (fun s => exs fix b s) W s
  | .brk, s => .bk s
  | .cont, s => .ct s
  | .pass, s => .nx s
  | .ret e, s => (match slotOf e with
    | some i => if fix.contains i then (ev G W false e s).fl fun d s1 => .rt d s1 else (match rd s i with
      | some d => .rt d (s.set i none)
      | none => .bad)
    | none => (ev G W false e s).fl fun d s1 => .rt d s1)
  | .retN, s => .rt .non s
  | .raise c, s => .rz c s
  | .dset i k e, s => (ev G W false e s).fl fun d s1 => if (rd s1 i).isSome then (ev G W true k s1).fl fun kd s2 => (match rd s2 i with
    | some (.dic true t ks ds) => if kOk t kd && still d && line ks.length then .nx (s2.set i (some (dput t ks ds kd d))) else .bad
    | _ => .bad) else .bad
  | .tryRet e c h, s => (match ev G W false e s with
    | .ok d s1 => .rt d s1
    | .rz c' s1 => if c = c' then exs fix h s1 else .bad
    | .bad => .bad)
  | .wth r i e b, s => if fix.contains r || decide (r = i) || decide (s.length ≤ r) then .bad else (evP G W (.sub (.slot i) e) s).fl fun q s1 => (match q.2 with
    | [.ix k] => if q.1 = i then (match holeS i k s1 with
      | some (j, ds, xs) => backS r i j ds (exs (r :: i :: fix) b (((s1.set r none).set i none).set r (some (.lst true xs))))
      | none => .bad) else .bad
    | _ => .bad)
  | .mov i j, s => if fix.contains i || fix.contains j || decide (i = j) || decide (s.length ≤ i) then .bad else (match rd s j with
    | some d => .nx ((s.set j none).set i (some d))
    | none => .bad)
  | .frzS j, s => (match rd s j with
    | some d => .nx (s.set j (some (frz d)))
    | none => .bad)
  | .defn t i n js, s => if fix.contains i || js.any fix.contains || decide (i = t) || js.contains i || decide (s.length ≤ i) then .bad else (match frzL js s with
    | some s1 => if tbsAt t s1 then .nx (s1.set i (some (.fn n js))) else .bad
    | none => .bad)
  | .ford g i b, s => (match rd s i with
    | some (.dic true t ks ds) => if stills ds && noFds ds && !(g.slots.any fix.contains) && !(g.slots.contains i) then
        backD i (.dic true t ks ds) (forL (fun s => exs (i :: fix) b s) g ks (s.set i (some (.dic false t ks ds))))
      else .bad
    | _ => .bad)
  | .forw g p b, s => (evP G W p s).fl fun q s1 => if g.slots.any fix.contains || g.slots.contains q.1 then .bad else (match walkS q s1 with
    | some ds => backW q.1 (rd s1 q.1) (forL (fun s => exs (q.1 :: fix) b s) g ds (s1.set q.1 none))
    | none => .bad)
def exs (fix : List Nat) : MSs → SA → Fl
  | .nil, s => .nx s
  | .cons t ts, s => match ex fix t s with
    | .nx s1 => exs fix ts s1
    | r => r
end
def mvals (s : SA) : List Nat → Option (List D)
  | [] => some []
  | i :: is => (rd s i).bind fun d => (mvals s is).map (d :: ·)
def resOf (fix : List Nat) (r : Fl) : Res :=
  let fin (s : SA) (k : List D → Res) : Res := match mvals s fix with | some ms => k ms | none => .bad
  match r with
  | .nx s => fin s (.ok .non)
  | .rt d s => fin s (.ok d)
  | .rz c s => fin s (.rz c)
  | _ => .bad
/-- a def: its parameters, the names of its frame, the parameters that it may change, its body -/
structure MF where
  np : Nat
  ns : Nat
  fix : List Nat
  body : MSs
def runF (f : MF) : Callee := fun ds => if ds.length = f.np then resOf f.fix (exs G W f.fix f.body (ds.map some ++ List.replicate (f.ns - f.np) none)) else .bad
/-- a def that makes functions: none of them leaves it -/
def runN (f : MF) : Callee := fun ds => if noFns ds then (match runF G W f ds with
  | .ok d ms => if noFn d && noFns ms then .ok d ms else .bad
  | .rz c ms => if noFns ms then .rz c ms else .bad
  | .bad => .bad) else .bad
end
end Ab
namespace Ab
open PySem L2
open Classical

/-! ### freezing -/
noncomputable def take (F H : Hp) (P : Fp) : Hp := fun x => if P x then H x else F x
section
variable {S : Sig} {F F' H H' : Hp}
theorem take_same {P : Fp} (h : ∀ x, P x → F x = none) : Same F (take F H P) := fun x o e => by
  unfold take
  split
  · rename_i p; rw [h x p] at e; cases e
  · exact e
theorem take_in {P : Fp} {x : Addr} (h : P x) : take F H P x = H x := by unfold take; rw [if_pos h]
theorem take_out {P : Fp} {x : Addr} (h : ¬ P x) : take F H P x = F x := by unfold take; rw [if_neg h]
theorem take_sub {P : Fp} (h : Same F H) : Same (take F H P) H := fun x o e => by
  unfold take at e
  split at e
  · exact e
  · exact h x o e
theorem rd_some {s : SA} {i : Nat} {d : D} (h : rd s i = some d) : s[i]? = some (some d) := by
  unfold rd at h
  cases e : s[i]? with
  | none => rw [e] at h; cases h
  | some o => rw [e] at h; cases o with
    | none => cases h
    | some d' => cases h; rfl
theorem rd_of {s : SA} {i : Nat} {d : D} (h : s[i]? = some (some d)) : rd s i = some d := by unfold rd; rw [h]; rfl
/-- one slot's value shared from now on -/
theorem SR.freeze {a : SA} {σ : L2.St} {P : Fp} {i : Nat} {d : D} (sr : SR S F H a σ P) (e : rd a i = some d) :
    ∃ v F' P', σ[i]? = some (some v) ∧ Rep S F' H (frz d) v Emp ∧ SR S F' H (a.set i (some (frz d))) σ P' ∧ Ext F F' H H P P' := by
  obtain ⟨v, P1, P2, e1, e2, di, r, h2, put⟩ := sr.rep.focus (rd_some e)
  have hn : ∀ x, P1 x → F x = none := fun x hx => sr.fr x (by rw [e2]; exact .inl hx)
  have sF := take_same (H := H) hn
  have rf : Rep S (take F H P1) H (frz d) v Emp := r.frz sF d fun x hx => take_in hx
  refine ⟨v, take F H P1, P2, e1, rf, ⟨?_, fun x hx => ?_, take_sub sr.sub⟩, ⟨sF, fun x o h _ => h, fun x hx => .inl (by rw [e2]; exact .inr hx), fun x o h => ?_⟩⟩
  · have := put (take F H P1) H P2 (h2.keep sF fun x hx => rfl) (frz d) Emp rf emp_dis
    rwa [emp_uni] at this
  · rw [take_out fun z => di x z hx]
    exact sr.fr x (by rw [e2]; exact .inr hx)
  · unfold take at h
    split at h
    · rename_i p; exact .inr (.inl (by rw [e2]; exact .inl p))
    · exact .inl ⟨o, h⟩
/-- a value set aside shared from now on -/
theorem Rep.share {d : D} {v : V} {Pd Pa : Fp} {a : SA} {σ : L2.St} (r : Rep S F H d v Pd) (sr : SR S F H a σ Pa) (di : Dis Pd Pa) (fr : ∀ x, Pd x → F x = none) :
    ∃ F', Rep S F' H (Ab.frz d) v Emp ∧ SR S F' H a σ Pa ∧ Ext F F' H H (Uni Pd Pa) Pa := by
  have sF := take_same (H := H) fr
  refine ⟨take F H Pd, r.frz sF d fun x hx => take_in hx, ⟨sr.rep.keep sF fun x _ => rfl, fun x hx => ?_, take_sub sr.sub⟩, ⟨sF, fun x o h _ => h, fun x hx => .inl (.inr hx), fun x o h => ?_⟩⟩
  · rw [take_out fun z => di x z hx]; exact sr.fr x hx
  · unfold take at h
    split at h
    · rename_i p; exact .inr (.inl (.inl p))
    · exact .inl ⟨o, h⟩
theorem Reps.share {ds : List D} {vs : List V} {Pd Pa : Fp} {a : SA} {σ : L2.St} (r : Reps S F H ds vs Pd) (sr : SR S F H a σ Pa) (di : Dis Pd Pa) (fr : ∀ x, Pd x → F x = none) :
    ∃ F', Reps S F' H (frzs ds) vs Emp ∧ SR S F' H a σ Pa ∧ Ext F F' H H (Uni Pd Pa) Pa := by
  have sF := take_same (H := H) fr
  refine ⟨take F H Pd, Reps.frz sF ds r fun x hx => take_in hx, ⟨sr.rep.keep sF fun x _ => rfl, fun x hx => ?_, take_sub sr.sub⟩, ⟨sF, fun x o h _ => h, fun x hx => .inl (.inr hx), fun x o h => ?_⟩⟩
  · rw [take_out fun z => di x z hx]; exact sr.fr x hx
  · unfold take at h
    split at h
    · rename_i p; exact .inr (.inl (.inl p))
    · exact .inl ⟨o, h⟩
end

/-! ### what an expression's reckoning says of the machine -/
/-- tmp: the value stands in no slot; kp: nothing that stood has changed; sl: it is this slot's -/
structure At where
  tmp : Bool
  kp : Bool
  sl : Option Nat
def atE (v : Bool) (e : ME) : At := ⟨!v || (rootOf e).isNone, pureE e, slotOf e⟩
structure Ok (S : Sig) (F H : Hp) (P : Fp) (σ : L2.St) (t : At) (d : D) (a' : SA) (v : V) (F' H' : Hp) (Pd Pa : Fp) : Prop where
  rep : Rep S F' H' d v Pd
  sr : SR S F' H' a' σ Pa
  ext : Ext F F' H H' P Pa
  ext2 : t.tmp = true → Ext F F' H H' P (Uni Pd Pa)
  dis : t.tmp = true → Dis Pd Pa
  fr : t.tmp = true → ∀ x, Pd x → F' x = none
  same : t.kp = true → Same H H'
  slot : ∀ i, t.sl = some i → σ[i]? = some (some v)
def Out (S : Sig) (Z : Nat → Hp → Prop) (F H : Hp) (P : Fp) (σ : L2.St) {α : Type} (K : α → SA → Prop) : Er α → Prop
  | .ok d a' => K d a'
  | .rz c a' => ∀ F' H' Pa, SR S F' H' a' σ Pa → Ext F F' H H' P Pa → Z c H'
  | .bad => False
theorem Out.imp {S : Sig} {Z : Nat → Hp → Prop} {F H : Hp} {P : Fp} {σ : L2.St} {α : Type} {K K' : α → SA → Prop} {x : Er α} (h : Out S Z F H P σ K x) (i : ∀ d a, x = .ok d a → K d a → K' d a) : Out S Z F H P σ K' x := by
  cases x with
  | ok d a => exact i d a rfl h
  | rz c a => exact h
  | bad => exact h
/-- from a later state -/
theorem Out.at {S : Sig} {Z : Nat → Hp → Prop} {F F1 H H1 : Hp} {P P1 : Fp} {σ : L2.St} {α : Type} {K : α → SA → Prop} {x : Er α} (e : Ext F F1 H H1 P P1) (h : Out S Z F H P σ K x) : Out S Z F1 H1 P1 σ K x := by
  cases x with
  | ok d a => exact h
  | rz c a => exact fun F' H' Pa sr x => h F' H' Pa sr (e.trans x)
  | bad => exact h
theorem Out.bind {S : Sig} {Z : Nat → Hp → Prop} {F H : Hp} {P : Fp} {σ : L2.St} {α β : Type} {K : β → SA → Prop} {x : Er α} {f : α → SA → Er β} (h : Out S Z F H P σ K (x.bind f)) : Out S Z F H P σ (fun d a => Out S Z F H P σ K (f d a)) x := by
  cases x with
  | ok d a => exact h
  | rz c a => exact h
  | bad => exact h
theorem Out.of {S : Sig} {Z : Nat → Hp → Prop} {F H : Hp} {P : Fp} {σ : L2.St} {α : Type} {K : α → SA → Prop} {o : Option α} {s : SA} (h : Out S Z F H P σ K (Er.of o s)) : ∃ d, o = some d ∧ K d s := by
  cases o with
  | none => exact h.elim
  | some d => exact ⟨d, rfl, h⟩

/-- the reading that goes with a reckoning -/
def tA (S : Sig) (Z : L2.St → Nat → Hp → Prop) (t : At) (f : SA → Er D) : TE := fun σ H Q => ∃ F P a, SR S F H a σ P ∧
  Out S (Z σ) F H P σ (fun d a' => ∀ v F' H' Pd Pa, Ok S F H P σ t d a' v F' H' Pd Pa → Q v H') (f a)
theorem _root_.L2.PE.weak {X : Cx} {e : Expr} {t t' : TE} (h : PE X e t) (w : ∀ σ H Q, t' σ H Q → t σ H Q) : PE X e t' :=
  ⟨fun pins s σ H Q I q => h.run pins s σ H Q I (w σ H Q q)⟩
theorem _root_.L2.PT.weak {X : Cx} {e : Expr} {t t' : TT} (h : PT X e t) (w : ∀ σ H Q, t' σ H Q → t σ H Q) : PT X e t' :=
  ⟨fun pins s σ H Q I q => h.run pins s σ H Q I (w σ H Q q)⟩
theorem _root_.L2.PA.weak {X : Cx} {e : List Expr} {t t' : TA} (h : PA X e t) (w : ∀ σ H Q, t' σ H Q → t σ H Q) : PA X e t' :=
  ⟨fun pos pins s σ H Q I q => h.run pos pins s σ H Q I (w σ H Q q)⟩
/-- a test's -/
def tAT (S : Sig) (Z : L2.St → Nat → Hp → Prop) (kp : Bool) (f : SA → Er Bool) : TT := fun σ H Q => ∃ F P a, SR S F H a σ P ∧
  Out S (Z σ) F H P σ (fun b a' => ∀ F' H' Pa, SR S F' H' a' σ Pa → Ext F F' H H' P Pa → (kp = true → Same H H') → Q b H') (f a)
section
variable {S : Sig} {Z : Nat → Hp → Prop} {F H : Hp} {P : Fp} {σ : L2.St} {a : SA}
theorem same_trans' {kp kq : Bool} {H H1 H2 : Hp} (h1 : kp = true → Same H H1) (h2 : kq = true → Same H1 H2) : (kp && kq) = true → Same H H2 := fun h => by
  simp only [Bool.and_eq_true] at h
  exact (h1 h.1).trans (h2 h.2)
/-- the first of two operands behind the second one -/
theorem stayed {e : ME} {tv tw : At} {d1 d2 d1' : D} {a1 a2 : SA} {v1 v2 : V} {F1 H1 F2 H2 : Hp} {P1 Pa1 P2 Pa2 : Fp} {pb : Bool}
    (o1 : Ok S F H P σ tv d1 a1 v1 F1 H1 P1 Pa1) (o2 : Ok S F1 H1 Pa1 σ tw d2 a2 v2 F2 H2 P2 Pa2) (h : stay e d1 pb a2 = some d1') (ht : tv = atE true e) (hb : pb = tw.kp) :
    ∃ P1', Rep S F2 H2 d1' v1 P1' ∧ ((rootOf e).isNone = true → P1' = P1 ∧ d1' = d1 ∧ Dis P1 Pa2 ∧ (∀ x, P1 x → F2 x = none) ∧ Ext F F2 H H2 P (Uni P1 Pa2) ∧ (tw.tmp = true → Dis P1 P2 ∧ Ext F F2 H H2 P (Uni P2 (Uni P1 Pa2)))) := by
  subst ht
  have ht : (rootOf e).isNone = true → (atE true e).tmp = true := fun z => by simp [atE, z]
  have fw : (rootOf e).isNone = true → Rep S F2 H2 d1 v1 P1 ∧ Dis P1 Pa2 ∧ (∀ x, P1 x → F2 x = none) ∧ Ext F F2 H H2 P (Uni P1 Pa2) ∧ (tw.tmp = true → Dis P1 P2 ∧ Ext F F2 H H2 P (Uni P2 (Uni P1 Pa2))) := fun z => by
    have t1 := ht z
    have di := o1.dis t1
    have held := o1.rep.held d1
    refine ⟨o2.ext.aside o1.rep di, o2.ext.dis di held, o2.ext.unf di held (o1.rep.notup d1) (o1.fr t1), (o1.ext2 t1).trans ?_, fun t2 => ⟨?_, (o1.ext2 t1).trans ?_⟩⟩
    · have := o2.ext.frame (R := P1)
      rwa [uni_comm Pa1 P1, uni_comm Pa2 P1] at this
    · exact fun x hx h2 => (o2.ext2 t2).dis di held x hx (.inl h2)
    · have := (o2.ext2 t2).frame (R := P1)
      rwa [uni_comm Pa1 P1, uni_assoc, uni_comm Pa2 P1] at this
  unfold stay at h
  by_cases hr : (rootOf e).isNone = true
  · obtain ⟨r, q⟩ := fw hr
    rw [hr, Bool.or_true, if_pos rfl] at h
    cases h
    exact ⟨P1, r, fun _ => ⟨rfl, rfl, q⟩⟩
  · by_cases hp : pb = true
    · rw [hp, Bool.true_or, Bool.true_or, if_pos rfl] at h
      cases h
      refine ⟨P1, o1.rep.keep o2.ext.same d1 fun x hx => ?_, fun z => (hr z).elim⟩
      obtain ⟨o, q⟩ := o1.rep.held d1 x hx
      rw [q]
      exact o2.same (by rw [← hb, hp]) x o q
    · by_cases hs : still d1 = true
      · rw [hs, Bool.or_true, Bool.true_or, if_pos rfl] at h
        cases h
        have e0 := o1.rep.still d1 hs
        exact ⟨P1, o1.rep.keep o2.ext.same d1 fun x hx => by rw [e0] at hx; exact hx.elim, fun z => (hr z).elim⟩
      · rw [if_neg (by simp [hp, hs, hr])] at h
        cases hsl : slotOf e with
        | none => rw [hsl] at h; cases h
        | some i =>
          rw [hsl] at h
          have hv := o1.slot i (by simp [atE, hsl])
          obtain ⟨v, Q1, Q2, e1, e2, di, r, h2, _⟩ := o2.sr.rep.focus (rd_some (show rd a2 i = some d1' from h))
          rw [hv] at e1
          cases e1
          exact ⟨Q1, r, fun z => (hr z).elim⟩
end
end Ab
namespace Ab
open PySem L2

section
variable {S : Sig} {F F' H H' : Hp}
theorem uni_empty {P Q : Fp} (h : Emp = Uni P Q) : P = Emp ∧ Q = Emp := by
  constructor
  · funext x
    refine propext ⟨fun p => ?_, fun z => z.elim⟩
    show Emp x
    rw [h]; exact .inl p
  · funext x
    refine propext ⟨fun p => ?_, fun z => z.elim⟩
    show Emp x
    rw [h]; exact .inr p
/-- item by item, nothing held -/
theorem Reps.at_iff : ∀ {ds : List D} {vs : List V}, Reps S F H ds vs Emp ↔ vs.length = ds.length ∧ ∀ (i : Nat) (d : D) (v : V), ds[i]? = some d → vs[i]? = some v → Rep S F H d v Emp
  | [], vs => by
    simp only [Reps]
    constructor
    · rintro ⟨rfl, _⟩
      exact ⟨rfl, fun i d v h => by simp at h⟩
    · rintro ⟨h, _⟩
      exact ⟨List.length_eq_zero_iff.mp h, trivial⟩
  | d :: ds, vs => by
    simp only [Reps]
    constructor
    · rintro ⟨v, r, P1, P2, rfl, e, _, h1, h2⟩
      obtain ⟨rfl, rfl⟩ := uni_empty e
      obtain ⟨hl, hi⟩ := Reps.at_iff.mp h2
      refine ⟨by simp [hl], fun i d' v' e1 e2 => ?_⟩
      cases i with
      | zero => simp at e1 e2; subst e1 e2; exact h1
      | succ i => exact hi i d' v' (by simpa using e1) (by simpa using e2)
    · rintro ⟨hl, hi⟩
      cases vs with
      | nil => simp at hl
      | cons v r => exact ⟨v, r, Emp, Emp, rfl, (uni_emp _).symm, emp_dis, hi 0 d v rfl rfl, Reps.at_iff.mpr ⟨by simpa using hl, fun i d' v' e1 e2 => hi (i + 1) d' v' (by simpa using e1) (by simpa using e2)⟩⟩
theorem Reps.still : ∀ (ds : List D) {vs : List V} {P : Fp}, Reps S F H ds vs P → stills ds = true → P = Emp
  | [], vs, P, h, k => by simp only [Reps] at h; exact h.2
  | d :: ds, vs, P, h, k => by
    simp only [stills, Bool.and_eq_true] at k
    simp only [Reps] at h
    obtain ⟨v, r, P1, P2, _, e, _, h1, h2⟩ := h
    rw [e, h1.still d k.1, Reps.still ds h2 k.2, uni_emp]
theorem Reps.app {xs ys : List D} {vs ws : List V} (a : Reps S F H xs vs Emp) (b : Reps S F H ys ws Emp) : Reps S F H (xs ++ ys) (vs ++ ws) Emp := by
  obtain ⟨l1, h1⟩ := Reps.at_iff.mp a
  obtain ⟨l2, h2⟩ := Reps.at_iff.mp b
  refine Reps.at_iff.mpr ⟨by simp [l1, l2], fun i d v e1 e2 => ?_⟩
  by_cases hi : i < xs.length
  · rw [List.getElem?_append_left hi] at e1
    rw [List.getElem?_append_left (by omega)] at e2
    exact h1 i d v e1 e2
  · rw [List.getElem?_append_right (by omega)] at e1
    rw [List.getElem?_append_right (by omega), l1] at e2
    exact h2 _ d v e1 e2
theorem Reps.take {xs : List D} {vs : List V} (n : Nat) (a : Reps S F H xs vs Emp) : Reps S F H (xs.take n) (vs.take n) Emp := by
  obtain ⟨l1, h1⟩ := Reps.at_iff.mp a
  refine Reps.at_iff.mpr ⟨by simp [l1], fun i d v e1 e2 => ?_⟩
  rw [List.getElem?_take] at e1 e2
  split at e1
  · rename_i h; rw [if_pos h] at e2; exact h1 i d v e1 e2
  · cases e1
theorem Reps.drop {xs : List D} {vs : List V} (n : Nat) (a : Reps S F H xs vs Emp) : Reps S F H (xs.drop n) (vs.drop n) Emp := by
  obtain ⟨l1, h1⟩ := Reps.at_iff.mp a
  refine Reps.at_iff.mpr ⟨by simp [l1], fun i d v e1 e2 => ?_⟩
  rw [List.getElem?_drop] at e1 e2
  exact h1 _ d v e1 e2
theorem Reps.rev {xs : List D} {vs : List V} (a : Reps S F H xs vs Emp) : Reps S F H xs.reverse vs.reverse Emp := by
  obtain ⟨l1, h1⟩ := Reps.at_iff.mp a
  refine Reps.at_iff.mpr ⟨by simp [l1], fun i d v e1 e2 => ?_⟩
  have hi : i < xs.length := by
    have := (List.getElem?_eq_some_iff.mp e1).1
    simpa using this
  rw [List.getElem?_reverse hi] at e1
  rw [List.getElem?_reverse (by omega), l1] at e2
  exact h1 _ d v e1 e2
theorem Reps.rep {xs : List D} {vs : List V} (a : Reps S F H xs vs Emp) : ∀ n : Nat, Reps S F H (List.replicate n xs).flatten (List.replicate n vs).flatten Emp
  | 0 => by simp only [List.replicate, List.flatten, Reps]; exact ⟨trivial, trivial⟩
  | n + 1 => by
    rw [List.replicate_succ, List.replicate_succ, List.flatten_cons, List.flatten_cons]
    exact a.app (Reps.rep a n)
theorem Reps.ofInts : ∀ (is : List Int), Reps S F H (is.map D.int) (is.map V.int) Emp
  | [] => by simp only [List.map, Reps]; exact ⟨trivial, trivial⟩
  | i :: is => by
    simp only [List.map, Reps]
    exact ⟨_, _, Emp, Emp, rfl, (uni_emp _).symm, emp_dis, by simp only [Rep]; exact ⟨trivial, trivial⟩, Reps.ofInts is⟩
theorem intsOf_eq : ∀ {ds : List D} {is : List Int}, intsOf ds = some is → ds = is.map D.int
  | [], is, h => by simp [intsOf] at h; subst h; rfl
  | d :: ds, is, h => by
    cases d <;> simp [intsOf] at h
    obtain ⟨js, h1, rfl⟩ := h
    rw [intsOf_eq h1]; rfl
theorem Reps.ints {is : List Int} {vs : List V} {P : Fp} (h : Reps S F H (is.map D.int) vs P) : vs = is.map V.int ∧ P = Emp := by
  induction is generalizing vs P with
  | nil => simp only [List.map, Reps] at h; exact ⟨h.1, h.2⟩
  | cons i is ih =>
    simp only [List.map, Reps] at h
    obtain ⟨v, r, P1, P2, rfl, e, _, h1, h2⟩ := h
    simp only [Rep] at h1
    obtain ⟨rfl, rfl⟩ := ih h2
    exact ⟨by rw [h1.1]; rfl, by rw [e, h1.2, uni_emp]⟩

/-! ### data -/
mutual
theorem Rep.dp (hs : Same F H) : ∀ (d : D) {v : V} {P : Fp}, Rep S F H d v P → plain0 d = true → Dp S.K H v (toPD d)
  | .non, v, P, h, k => by simp only [Rep] at h; rw [h.1]; exact .non
  | .bl b, v, P, h, k => by simp only [Rep] at h; rw [h.1]; exact .bl b
  | .int i, v, P, h, k => by simp only [Rep] at h; rw [h.1]; exact .int i
  | .str x, v, P, h, k => by simp only [Rep] at h; rw [h.1]; exact .str x
  | .tup ds, v, P, h, k => by
    simp only [Rep] at h
    obtain ⟨_, a, vs, rfl, ea, h⟩ := h
    simp only [plain0] at k
    exact .tup (SqT.of (hs _ _ ea)) (Reps.dp hs ds h k)
  | .lst m ds, v, P, h, k => by
    simp only [Rep] at h
    obtain ⟨a, vs, rfl, h⟩ := h
    simp only [plain0] at k
    split at h
    · obtain ⟨ea, _, P', _, _, h⟩ := h
      exact .lst (SqL.of ea) (Reps.dp hs ds h k)
    · exact .lst (SqL.of (hs _ _ h.2.1)) (Reps.dp hs ds h.2.2 k)
  | .ins m c ds, v, P, h, k => by simp [plain0] at k
  | .scr is, v, P, h, k => by simp [plain0] at k
  | .dic m t ks ds, v, P, h, k => by simp [plain0] at k
  | .clo n cap, v, P, h, k => by simp [plain0] at k
  | .fn n js, v, P, h, k => by simp [plain0] at k
  | .tbs, v, P, h, k => by simp [plain0] at k
theorem Reps.dp (hs : Same F H) : ∀ (ds : List D) {vs : List V} {P : Fp}, Reps S F H ds vs P → plains0 ds = true → DpAll S.K H vs (toPDs ds)
  | [], vs, P, h, k => by simp only [Reps] at h; rw [h.1]; exact .nil
  | d :: ds, vs, P, h, k => by
    simp only [Reps] at h
    simp only [plains0, Bool.and_eq_true] at k
    obtain ⟨v, r, P1, P2, rfl, _, _, h1, h2⟩ := h
    exact .cons (Rep.dp hs d h1 k.1) (Reps.dp hs ds h2 k.2)
end
mutual
theorem lay_toPD : ∀ d : D, plain0 d = true → (toPD d).canLay0 = true
  | .non, _ => rfl
  | .bl b, _ => rfl
  | .int i, _ => rfl
  | .str x, h => by simpa [toPD, PyData.canLay0, plain0] using h
  | .tup ds, h => by simp only [toPD, PyData.canLay0]; exact lays_toPD ds (by simpa [plain0] using h)
  | .lst m ds, h => by simp only [toPD, PyData.canLay0]; exact lays_toPD ds (by simpa [plain0] using h)
  | .ins m c ds, _ => rfl
  | .scr is, _ => rfl
  | .dic m t ks ds, _ => rfl
  | .clo n cap, _ => rfl
  | .fn n js, _ => rfl
  | .tbs, _ => rfl
theorem lays_toPD : ∀ ds : List D, plains0 ds = true → PyData.canLayAll0 (toPDs ds) = true
  | [], _ => rfl
  | d :: ds, h => by
    simp only [plains0, Bool.and_eq_true] at h
    simp only [toPDs, PyData.canLayAll0, Bool.and_eq_true]; exact ⟨lay_toPD d h.1, lays_toPD ds h.2⟩
end
theorem shaped_of {d : D} (h : plain d = true) : SeqAt.shaped (toPD d) = true := by
  simp only [plain, Bool.and_eq_true, decide_eq_true_eq] at h
  simp only [SeqAt.shaped, Bool.and_eq_true, decide_eq_true_eq]
  exact ⟨lay_toPD d h.1, by omega⟩
theorem toPDs_map : ∀ ds : List D, toPDs ds = ds.map toPD
  | [] => rfl
  | d :: ds => by simp [toPDs, toPDs_map ds]
/-! ### a new value -/
structure New (S : Sig) (F H : Hp) (d : D) (v : V) (F' H' : Hp) (Pd : Fp) : Prop where
  rep : Rep S F' H' d v Pd
  sF : Same F F'
  sH : Same H H'
  sub : Same F' H'
  fresh : ∀ x, Pd x → H x = none
  fr : ∀ x, Pd x → F' x = none
  frz : ∀ x o, F' x = some o → (∃ o, F x = some o) ∨ H x = none
theorem New.flat {d : D} {v : V} (hs : Same F H) (h : Rep S F H d v Emp) : New S F H d v F H Emp :=
  ⟨h, fun _ _ z => z, fun _ _ z => z, hs, fun _ z => z.elim, fun _ z => z.elim, fun _ o z => .inl ⟨o, z⟩⟩
theorem same_up {p : Addr} {o : HO} (h : H p = none) : Same H (upd H p o) := fun b x e => by rw [upd_ne (ne_of_none e h)]; exact e
theorem New.lst {ds : List D} {vs : List V} {p : Addr} (hs : Same F H) (h : Reps S F H ds vs Emp) (hp : H p = none) : New S F H (.lst true ds) (.ref p) F (upd H p (.lst vs)) (fun x => x = p) := by
  refine ⟨?_, fun _ _ z => z, same_up hp, hs.trans (same_up hp), fun x e => by rw [e]; exact hp, fun x e => by rw [e]; exact hs.free hp, fun _ o z => .inl ⟨o, z⟩⟩
  simp only [Rep]
  refine ⟨p, vs, rfl, ?_⟩
  rw [if_pos trivial]
  exact ⟨upd_same, rfl, Emp, fun z => z, (uni_emp _).symm, Reps.keep (fun _ _ z => z) ds h fun x z => z.elim⟩
theorem New.tup {ds : List D} {vs : List V} {p : Addr} (hs : Same F H) (h : Reps S F H ds vs Emp) (hp : H p = none) : New S F H (.tup ds) (.ref p) (upd F p (.tup vs)) (upd H p (.tup vs)) Emp := by
  have hF : F p = none := hs.free hp
  refine ⟨?_, same_up hF, same_up hp, fun x o e => ?_, fun _ z => z.elim, fun _ z => z.elim, fun x o e => ?_⟩
  · simp only [Rep]
    exact ⟨trivial, p, vs, rfl, upd_same, Reps.keep (same_up hF) ds h fun x z => z.elim⟩
  · by_cases hx : x = p
    · subst hx; rw [upd_same] at e ⊢; exact e
    · rw [upd_ne hx] at e ⊢; exact hs x o e
  · by_cases hx : x = p
    · exact .inr (by rw [hx]; exact hp)
    · rw [upd_ne hx] at e; exact .inl ⟨o, e⟩
end
end Ab
namespace Ab
open PySem PySem.Spec PyProof.Rows L2
/-! AbMul: a tuple times 1 or less, or an empty one -/
set_option maxHeartbeats 4000000 in
theorem mulT_same (l : Addr) (its : Array Value) (n : Nat) (dd : Option Addr) (sl : Array (Option Value)) (x : Int) (u : Tok)
    (c0 : (decide (x < -(2 ^ 63)) || decide (x ≥ 2 ^ 63)) = false) (c1 : (its.isEmpty || x == 1) = true) :
    Meets (Builtin.«tuple.__mul__» ⟨[.ref l, .int x u], []⟩) (fun _ R s => s.heap.get? l = some { cls := .type "tuple", dict := dd, data := .seq its n, slots := sl } ∧ R (.ok (.ret (.ref l))) s) := by
  refine .of_wp fun prog w A R s h => ?_
  obtain ⟨hp0, g0, d0, tk0, os0⟩ := s
  obtain ⟨hget, h⟩ := h
  have f1 := AutoSeq1.idx_int
  wp_walk using wpAny_loadPart' hget
  refine wpAny_ite_false (decide_eq_false (by rw [c0]; exact Bool.false_ne_true)) ?_
  wp_walk using wpAny_loadPart' hget
  exact ⟨_, rfl, h⟩
set_option maxHeartbeats 4000000 in
theorem mulT_none (l : Addr) (its : Array Value) (n : Nat) (dd : Option Addr) (sl : Array (Option Value)) (x : Int) (u : Tok)
    (c0 : (decide (x < -(2 ^ 63)) || decide (x ≥ 2 ^ 63)) = false) (c1 : (its.isEmpty || x == 1) = false) (c2 : (decide (x ≤ 0) || its.isEmpty) = true) :
    Meets (Builtin.«tuple.__mul__» ⟨[.ref l, .int x u], []⟩) (fun _ R s => s.heap.get? l = some { cls := .type "tuple", dict := dd, data := .seq its n, slots := sl } ∧
      R (.ok (.ret (.ref s.heap.objs.size))) { s with heap := s.heap.push { cls := Value.type "tuple", data := Data.seq #[] }, toks := s.toks }) := by
  refine .of_wp fun prog w A R s h => ?_
  obtain ⟨hp0, g0, d0, tk0, os0⟩ := s
  obtain ⟨hget, h⟩ := h
  have f1 := AutoSeq1.idx_int
  wp_walk using wpAny_loadPart' hget
  refine wpAny_ite_false (decide_eq_false (by rw [c0]; exact Bool.false_ne_true)) ?_
  wp_walk using wpAny_loadPart' hget
  exact ⟨_, rfl, h⟩
variable {X : Cx}
theorem op_repSame : OpR X (binaryOp .Mult) (fun x y H Q => ∃ l k xs, x = .ref l ∧ y = .int k ∧ SqT X.K H l xs ∧ (xs = [] ∨ k = 1) ∧ -(2 ^ 63) ≤ k ∧ k < 2 ^ 63 ∧ Q (.ref l) H) := by
  intro pins s σ H x y v u Q I rx ry h
  obtain ⟨l, k, xs, rfl, rfl, hT, hne, h1, h2, q⟩ := h
  cases rx
  obtain ⟨t, rfl⟩ := ry
  obtain ⟨its, rv, ⟨⟨cl, dd, dat, sl⟩, ho, ec, n, ed⟩, hz⟩ := I.tuple hT
  simp only at ec ed
  subst ec ed
  have hle : its.length = xs.length := rv.length.symm
  have c1 : (its.toArray.isEmpty || k == 1) = true := by
    rcases hne with e | e
    · rw [e] at hle
      have : its = [] := List.eq_nil_of_length_eq_zero hle
      subst this; rfl
    · subst e; simp
  refine wpAny_binaryOp_repeat_ref (T := "tuple") (U := "int") (by decide) ⟨_, ho, rfl⟩ (fun z => typeIs_int z k t) noFill_tuple_mul F.fills_int_mul
    F.slot_int_rmul repeat_tuple F.slot_int_index.lookup (call_meets F.slot_int_rmul (typeIs_int s k t) F.entry_int_rmul
      (F.args_int_rmul_2 _ _) (int_rmul_tuple k t l its.toArray n dd sl) ⟨ho, rfl, ⟨_, ho, rfl⟩, call_meets F.slot_tuple_mul ⟨_, ho, rfl⟩ F.entry_tuple_mul (F.args_tuple_mul_2 _ _) (mulT_same l its.toArray n dd sl k t (by rw [decide_eq_false (by omega), decide_eq_false (by omega)] <;> rfl) c1) ⟨ho, ?_⟩⟩)
  exact ⟨.ref l, H, I, rfl, q⟩
theorem op_repNone : OpR X (binaryOp .Mult) (fun x y H Q => ∃ l k xs, x = .ref l ∧ y = .int k ∧ SqT X.K H l xs ∧ xs ≠ [] ∧ k ≤ 0 ∧ -(2 ^ 63) ≤ k ∧ ∀ p, H p = none → Q (.ref p) (upd H p (.tup []))) := by
  intro pins s σ H x y v u Q I rx ry h
  obtain ⟨l, k, xs, rfl, rfl, hT, hne, h1, h2, q⟩ := h
  cases rx
  obtain ⟨t, rfl⟩ := ry
  obtain ⟨its, rv, ⟨⟨cl, dd, dat, sl⟩, ho, ec, n, ed⟩, hz⟩ := I.tuple hT
  simp only at ec ed
  subst ec ed
  have hle : its.length = xs.length := rv.length.symm
  have hi : its.toArray.isEmpty = false := by
    cases its with
    | nil => exact absurd (List.eq_nil_of_length_eq_zero hle.symm) hne
    | cons a b => rfl
  have c1 : (its.toArray.isEmpty || k == 1) = false := by
    rw [hi, Bool.false_or]; exact beq_eq_false_iff_ne.mpr (by omega)
  have c2 : (decide (k ≤ 0) || its.toArray.isEmpty) = true := by simp [h1]
  refine wpAny_binaryOp_repeat_ref (T := "tuple") (U := "int") (by decide) ⟨_, ho, rfl⟩ (fun z => typeIs_int z k t) noFill_tuple_mul F.fills_int_mul
    F.slot_int_rmul repeat_tuple F.slot_int_index.lookup (call_meets F.slot_int_rmul (typeIs_int s k t) F.entry_int_rmul
      (F.args_int_rmul_2 _ _) (int_rmul_tuple k t l its.toArray n dd sl) ⟨ho, rfl, ⟨_, ho, rfl⟩, call_meets F.slot_tuple_mul ⟨_, ho, rfl⟩ F.entry_tuple_mul (F.args_tuple_mul_2 _ _) (mulT_none l its.toArray n dd sl k t (by rw [decide_eq_false (by omega), decide_eq_false (by omega)] <;> rfl) c1 c2) ⟨ho, ?_⟩⟩)
  refine ⟨.ref s.heap.objs.size, _, I.laid (t' := s.toks) (o := .tup []) (fun b ob q => Heap.get?_push_of_some _ q) (Nat.le_refl _) ?_, rfl, q _ (I.hok.fresh (Nat.le_refl _))⟩
  exact ⟨by simp [sizeLine_eq], _, .nil, IsTup.new _ _⟩
end Ab
namespace Ab
open PySem L2

def opO : Op2 → Operator
  | .add => .Add | .sub => .Sub | .mul => .Mult | .fdiv => .FloorDiv | .mod => .Mod | .pow => .Pow | .shl => .LShift | .shr => .RShift | .band => .BitAnd | .bor => .BitOr
def opC : Cmp → CmpOp
  | .eq => .Eq | .ne => .NotEq | .lt => .Lt | .le => .LtE | .gt => .Gt | .ge => .GtE | .inn => .In | .nin => .NotIn
def rG (S : Sig) (f : D → D → Option D) : R2 := fun x y H Q => ∃ F d1 d2 d P1 P2, Same F H ∧ Rep S F H d1 x P1 ∧ Rep S F H d2 y P2 ∧ f d1 d2 = some d ∧ ∀ v F' H' Pd, New S F H d v F' H' Pd → Q v H'
section
variable {X : Cx} {S : Sig} {F H : Hp}
theorem rep_int {i : Int} {v : V} {P : Fp} : Rep S F H (.int i) v P ↔ v = .int i ∧ P = Emp := by simp only [Rep]
theorem rep_bl {i : Bool} {v : V} {P : Fp} : Rep S F H (.bl i) v P ↔ v = .bl i ∧ P = Emp := by simp only [Rep]
theorem rep_str {i : Str} {v : V} {P : Fp} : Rep S F H (.str i) v P ↔ v = .str i ∧ P = Emp := by simp only [Rep]
theorem rep_non {v : V} {P : Fp} : Rep S F H .non v P ↔ v = .non ∧ P = Emp := by simp only [Rep]
theorem rep_tup {ds : List D} {v : V} {P : Fp} : Rep S F H (.tup ds) v P ↔ P = Emp ∧ ∃ a vs, v = .ref a ∧ F a = some (.tup vs) ∧ Reps S F H ds vs Emp := by simp only [Rep]
/-- a list that is read: where it lies -/
theorem Rep.lst_at {m : Bool} {ds : List D} {v : V} {P : Fp} (hs : Same F H) (h : Rep S F H (.lst m ds) v P) : ∃ a vs P', v = .ref a ∧ H a = some (.lst vs) ∧ Reps S F H ds vs P' := by
  simp only [Rep] at h
  obtain ⟨a, vs, rfl, h⟩ := h
  split at h
  · obtain ⟨ea, _, P', _, _, h⟩ := h
    exact ⟨a, vs, P', rfl, ea, h⟩
  · exact ⟨a, vs, Emp, rfl, hs _ _ h.2.1, h.2.2⟩
theorem New.int (hs : Same F H) {i : Int} : New S F H (.int i) (.int i) F H Emp := .flat hs (rep_int.mpr ⟨rfl, rfl⟩)
theorem New.bl (hs : Same F H) {i : Bool} : New S F H (.bl i) (.bl i) F H Emp := .flat hs (rep_bl.mpr ⟨rfl, rfl⟩)
theorem New.str (hs : Same F H) {i : Str} : New S F H (.str i) (.str i) F H Emp := .flat hs (rep_str.mpr ⟨rfl, rfl⟩)

theorem bin_ok (o : Op2) : OpR X (binaryOp (opO o)) (rG S (bin o)) := by
  intro pins s σ H x y v u Q I rx ry h
  obtain ⟨F, d1, d2, d, P1, P2, hs, r1, r2, hb, q⟩ := h
  unfold bin at hb
  split at hb
  · -- int + int
    cases hb
    obtain ⟨rfl, _⟩ := rep_int.mp r1
    obtain ⟨rfl, _⟩ := rep_int.mp r2
    exact op_add pins s σ H _ _ v u Q I rx ry ⟨_, _, rfl, rfl, q _ _ _ _ (.int hs)⟩
  · split at hb
    · rename_i hl
      cases hb
      obtain ⟨rfl, _⟩ := rep_str.mp r1
      obtain ⟨rfl, _⟩ := rep_str.mp r2
      exact op_add_str pins s σ H _ _ v u Q I rx ry ⟨_, _, rfl, rfl, hl, q _ _ _ _ (.str hs)⟩
    · cases hb
  · split at hb
    · rename_i xs ys hl
      cases hb
      obtain ⟨_, a, vs, rfl, ea, h1⟩ := rep_tup.mp r1
      obtain ⟨_, b, ws, rfl, eb, h2⟩ := rep_tup.mp r2
      refine op_catA pins s σ H _ _ v u Q I rx ry ⟨a, b, vs, ws, rfl, rfl, SqT.of (hs _ _ ea), SqT.of (hs _ _ eb), by rw [Reps.len h1, Reps.len h2]; exact hl, fun e => ?_, fun _ e => ?_, fun _ _ p hp => ?_⟩
      · have e0 : xs = [] := by
          have := Reps.len h1
          rw [e] at this
          exact List.length_eq_zero_iff.mp this.symm
        subst e0
        exact q _ _ _ _ (.flat hs (rep_tup.mpr ⟨rfl, b, ws, rfl, eb, h2⟩))
      · have e0 : ys = [] := by
          have := Reps.len h2
          rw [e] at this
          exact List.length_eq_zero_iff.mp this.symm
        subst e0
        rw [List.append_nil] at q
        exact q _ _ _ _ (.flat hs (rep_tup.mpr ⟨rfl, a, vs, rfl, ea, h1⟩))
      · exact q _ _ _ _ (.tup hs (h1.app h2) hp)
    · cases hb
  · split at hb
    · rename_i m1 xs m2 ys hl
      cases hb
      simp only [Bool.and_eq_true, decide_eq_true_eq] at hl
      obtain ⟨a, vs, P1', rfl, ea, h1⟩ := r1.lst_at hs
      obtain ⟨b, ws, P2', rfl, eb, h2⟩ := r2.lst_at hs
      rw [Reps.still xs h1 hl.1.1] at h1
      rw [Reps.still ys h2 hl.1.2] at h2
      exact op_cat pins s σ H _ _ v u Q I rx ry ⟨a, b, vs, ws, rfl, rfl, ea, eb, by rw [Reps.len h1, Reps.len h2]; exact hl.2, fun p hp => q _ _ _ _ (.lst hs (h1.app h2) hp)⟩
    · cases hb
  · cases hb
    obtain ⟨rfl, _⟩ := rep_int.mp r1
    obtain ⟨rfl, _⟩ := rep_int.mp r2
    exact op_sub pins s σ H _ _ v u Q I rx ry ⟨_, _, rfl, rfl, q _ _ _ _ (.int hs)⟩
  · split at hb
    · rename_i i j hl
      cases hb
      obtain ⟨rfl, _⟩ := rep_int.mp r1
      obtain ⟨rfl, _⟩ := rep_int.mp r2
      simp only [Bool.or_eq_true, small64i_iff] at hl
      exact op_mul pins s σ H _ _ v u Q I rx ry ⟨_, _, rfl, rfl, hl, q _ _ _ _ (.int hs)⟩
    · cases hb
  · split at hb
    · rename_i m1 xs k hl
      cases hb
      simp only [Bool.and_eq_true, decide_eq_true_eq] at hl
      obtain ⟨a, vs, P1', rfl, ea, h1⟩ := r1.lst_at hs
      obtain ⟨rfl, _⟩ := rep_int.mp r2
      rw [Reps.still xs h1 hl.1] at h1
      exact op_rep pins s σ H _ _ v u Q I rx ry ⟨a, k, vs, rfl, rfl, ea, hl.2.1, hl.2.2.1, by rw [Reps.len h1]; exact hl.2.2.2, fun p hp => q _ _ _ _ (.lst hs (h1.rep _) hp)⟩
    · cases hb
  · split at hb
    · rename_i xs k hl
      cases hb
      simp only [decide_eq_true_eq] at hl
      obtain ⟨_, a, vs, rfl, ea, h1⟩ := rep_tup.mp r1
      obtain ⟨rfl, _⟩ := rep_int.mp r2
      have e := Reps.len h1
      by_cases hx : xs = []
      · subst hx
        have e0 : (List.replicate k.toNat ([] : List D)).flatten = [] := by simp
        rw [e0] at q
        refine op_repSame pins s σ H _ _ v u Q I rx ry ⟨a, k, vs, rfl, rfl, SqT.of (hs _ _ ea), .inl (List.length_eq_zero_iff.mp (by rw [e]; rfl)), by omega, by omega, ?_⟩
        exact q _ _ _ _ (.flat hs (rep_tup.mpr ⟨rfl, a, vs, rfl, ea, h1⟩))
      · have hv : vs ≠ [] := fun z => by
          rw [z] at e
          exact hx (List.length_eq_zero_iff.mp e.symm)
        by_cases k1 : k = 1
        · subst k1
          have e0 : (List.replicate (1 : Int).toNat xs).flatten = xs := by simp
          rw [e0] at q
          refine op_repSame pins s σ H _ _ v u Q I rx ry ⟨a, 1, vs, rfl, rfl, SqT.of (hs _ _ ea), .inr rfl, by omega, by omega, ?_⟩
          exact q _ _ _ _ (.flat hs (rep_tup.mpr ⟨rfl, a, vs, rfl, ea, h1⟩))
        · by_cases k0 : k ≤ 0
          · have e0 : (List.replicate k.toNat xs).flatten = [] := by
              have : k.toNat = 0 := by omega
              rw [this]; rfl
            rw [e0] at q
            exact op_repNone pins s σ H _ _ v u Q I rx ry ⟨a, k, vs, rfl, rfl, SqT.of (hs _ _ ea), hv, k0, by omega, fun p hp => q _ _ _ _ (.tup hs (by simp [Reps]) hp)⟩
          · exact op_repT pins s σ H _ _ v u Q I rx ry ⟨a, k, vs, rfl, rfl, SqT.of (hs _ _ ea), hv, by omega, hl.2.1, by rw [e]; exact hl.2.2, fun p hp => q _ _ _ _ (.tup hs (h1.rep _) hp)⟩
    · cases hb
  · split at hb
    · rename_i i j hl
      cases hb
      obtain ⟨rfl, _⟩ := rep_int.mp r1
      obtain ⟨rfl, _⟩ := rep_int.mp r2
      exact op_fdiv pins s σ H _ _ v u Q I rx ry ⟨_, _, rfl, rfl, (of_decide_eq_true (p := 0 < j ∧ j < 1073741824) hl), q _ _ _ _ (.int hs)⟩
    · cases hb
  · split at hb
    · rename_i i j hl
      cases hb
      obtain ⟨rfl, _⟩ := rep_int.mp r1
      obtain ⟨rfl, _⟩ := rep_int.mp r2
      exact op_mod pins s σ H _ _ v u Q I rx ry ⟨_, _, rfl, rfl, of_decide_eq_true hl, q _ _ _ _ (.int hs)⟩
    · cases hb
  · split at hb
    · rename_i i j hl
      cases hb
      obtain ⟨rfl, _⟩ := rep_int.mp r1
      obtain ⟨rfl, _⟩ := rep_int.mp r2
      exact op_pow pins s σ H _ _ v u Q I rx ry ⟨_, _, rfl, rfl, (of_decide_eq_true (p := 0 ≤ j ∧ j ≤ 1000000 ∧ i.natAbs < 2 ^ 64) hl), q _ _ _ _ (.int hs)⟩
    · cases hb
  · split at hb
    · rename_i i j hl
      cases hb
      obtain ⟨rfl, _⟩ := rep_int.mp r1
      obtain ⟨rfl, _⟩ := rep_int.mp r2
      exact op_shl pins s σ H _ _ v u Q I rx ry ⟨_, _, rfl, rfl, (of_decide_eq_true (p := 0 ≤ j ∧ j ≤ 1000000 ∧ i.natAbs < 2 ^ 64) hl), q _ _ _ _ (.int hs)⟩
    · cases hb
  · split at hb
    · rename_i i j hl
      cases hb
      obtain ⟨rfl, _⟩ := rep_int.mp r1
      obtain ⟨rfl, _⟩ := rep_int.mp r2
      exact op_shr pins s σ H _ _ v u Q I rx ry ⟨_, _, rfl, rfl, of_decide_eq_true hl, q _ _ _ _ (.int hs)⟩
    · cases hb
  · cases hb
    obtain ⟨rfl, _⟩ := rep_int.mp r1
    obtain ⟨rfl, _⟩ := rep_int.mp r2
    exact op_and pins s σ H _ _ v u Q I rx ry ⟨_, _, rfl, rfl, q _ _ _ _ (.int hs)⟩
  · cases hb
    obtain ⟨rfl, _⟩ := rep_int.mp r1
    obtain ⟨rfl, _⟩ := rep_int.mp r2
    exact op_or pins s σ H _ _ v u Q I rx ry ⟨_, _, rfl, rfl, q _ _ _ _ (.int hs)⟩
  · cases hb
def rGB (S : Sig) (f : D → D → Option Bool) : R2 := fun x y H Q => ∃ F d1 d2 b P1 P2, Same F H ∧ Rep S F H d1 x P1 ∧ Rep S F H d2 y P2 ∧ f d1 d2 = some b ∧ Q (.bl b) H
theorem plains_shaped {ds : List D} (h : plains ds = true) : PyData.canLayAll0 (toPDs ds) = true ∧ PyData.depthAll (toPDs ds) ≤ 60 ∧ plains0 ds = true := by
  simp only [plains, Bool.and_eq_true, decide_eq_true_eq] at h
  exact ⟨lays_toPD ds h.1, h.2, h.1⟩
theorem plain_plain0 {d : D} (h : plain d = true) : plain0 d = true := by
  simp only [plain, Bool.and_eq_true] at h
  exact h.1
/-! ### dicts -/
theorem isI_of {d : D} (h : isI d = true) : ∃ i, d = .int i := by
  cases d <;> first | exact ⟨_, rfl⟩ | (simp [isI] at h; done)
theorem allI_of : ∀ {ds : List D}, ds.all isI = true → ∃ is : List Int, ds = is.map D.int
  | [], _ => ⟨[], rfl⟩
  | d :: ds, h => by
    simp only [List.all_cons, Bool.and_eq_true] at h
    obtain ⟨i, rfl⟩ := isI_of h.1
    obtain ⟨is, rfl⟩ := allI_of h.2
    exact ⟨i :: is, rfl⟩
theorem eqvAll_ints : ∀ (l m : List Int), PyData.eqvAll (toPDs (l.map D.int)) (toPDs (m.map D.int)) = decide (l = m)
  | [], [] => by simp [toPDs, PySem.PyData.eqvAll]
  | [], _ :: _ => by simp [toPDs, PySem.PyData.eqvAll]
  | _ :: _, [] => by simp [toPDs, PySem.PyData.eqvAll]
  | a :: l, b :: m => by
    simp only [List.map_cons, toPDs, toPD, PySem.PyData.eqvAll, PySem.PyData.eqv, eqvAll_ints l m]
    by_cases h : a = b <;> by_cases h' : l = m <;> simp [h, h']
theorem kIs_inj : ∀ {l m : List Int}, (l.map D.int).map kI = (m.map D.int).map kI ↔ l = m := by
  intro l m
  rw [List.map_map, List.map_map]
  constructor
  · intro h
    exact (List.map_inj_right (f := kI ∘ D.int) (fun x y e => by simpa [kI] using e)).mp h
  · rintro rfl; rfl
/-- a key of kind t: an int, a tuple of ints, or a nested tuple of ints -/
theorem kOk_of {t : Nat} {k : D} (h : kOk t k = true) : (t = 0 ∧ ∃ i, k = .int i) ∨ (t = 1 ∧ ∃ is : List Int, k = .tup (is.map D.int)) ∨ (t = 2 ∧ ∃ ds, k = .tup ds ∧ nOks ds = true ∧ (nk (.tup ds)).depth ≤ 8) := by
  cases k <;> simp only [kOk, Bool.or_eq_true, Bool.and_eq_true, beq_iff_eq, decide_eq_true_eq, Bool.false_eq_true] at h
  · exact .inl ⟨h, _, rfl⟩
  · rcases h with h | h
    · obtain ⟨is, rfl⟩ := allI_of h.2
      exact .inr (.inl ⟨h.1, is, rfl⟩)
    · exact .inr (.inr ⟨h.1, _, rfl, h.2⟩)
theorem eqD_kI {a b : D} (ha : kOk 0 a = true) (hb : kOk 0 b = true) : eqD a b = decide (kI a = kI b) := by
  rcases kOk_of ha with ⟨_, i, rfl⟩ | ⟨h, _⟩ | ⟨h, _⟩
  · rcases kOk_of hb with ⟨_, j, rfl⟩ | ⟨h, _⟩ | ⟨h, _⟩
    · simp only [eqD, toPD, PySem.PyData.eqv, kI, Sum.inl.injEq]
      by_cases h : i = j <;> simp [h]
    · cases h
    · cases h
  · cases h
  · cases h
theorem eqD_kT {a b : D} (ha : kOk 1 a = true) (hb : kOk 1 b = true) : eqD a b = decide (kT a = kT b) := by
  rcases kOk_of ha with ⟨h, _⟩ | ⟨_, l, rfl⟩ | ⟨h, _⟩
  · cases h
  · rcases kOk_of hb with ⟨h, _⟩ | ⟨_, m, rfl⟩ | ⟨h, _⟩
    · cases h
    · simp only [eqD, toPD, PySem.PyData.eqv, eqvAll_ints, kT, kIs_inj]
    · cases h
  · cases h
mutual
theorem eqv_nk : ∀ a b : D, nOk a = true → nOk b = true → PySem.PyData.eqv (toPD a) (toPD b) = PySem.NestedKey.beq (nk a) (nk b)
  | .int i, .int j, _, _ => by
    simp only [toPD, PySem.PyData.eqv, nk, PySem.NestedKey.beq]
    by_cases h : i = j <;> simp [h]
  | .int i, .tup b, _, _ => by simp only [toPD, PySem.PyData.eqv, nk, PySem.NestedKey.beq]
  | .tup a, .int j, _, _ => by simp only [toPD, PySem.PyData.eqv, nk, PySem.NestedKey.beq]
  | .tup a, .tup b, ha, hb => by
    simp only [toPD, PySem.PyData.eqv, nk, PySem.NestedKey.beq]
    exact eqvs_nk a b (by simpa only [nOk] using ha) (by simpa only [nOk] using hb)
  | .non, _, h, _ => by simp [nOk] at h
  | .bl _, _, h, _ => by simp [nOk] at h
  | .str _, _, h, _ => by simp [nOk] at h
  | .lst _ _, _, h, _ => by simp [nOk] at h
  | .ins _ _ _, _, h, _ => by simp [nOk] at h
  | .scr _, _, h, _ => by simp [nOk] at h
  | .dic _ _ _ _, _, h, _ => by simp [nOk] at h
  | .clo _ _, _, h, _ => by simp [nOk] at h
  | .fn _ _, _, h, _ => by simp [nOk] at h
  | .tbs, _, h, _ => by simp [nOk] at h
  | .int _, .non, _, h => by simp [nOk] at h
  | .int _, .bl _, _, h => by simp [nOk] at h
  | .int _, .str _, _, h => by simp [nOk] at h
  | .int _, .lst _ _, _, h => by simp [nOk] at h
  | .int _, .ins _ _ _, _, h => by simp [nOk] at h
  | .int _, .scr _, _, h => by simp [nOk] at h
  | .int _, .dic _ _ _ _, _, h => by simp [nOk] at h
  | .int _, .clo _ _, _, h => by simp [nOk] at h
  | .int _, .fn _ _, _, h => by simp [nOk] at h
  | .int _, .tbs, _, h => by simp [nOk] at h
  | .tup _, .non, _, h => by simp [nOk] at h
  | .tup _, .bl _, _, h => by simp [nOk] at h
  | .tup _, .str _, _, h => by simp [nOk] at h
  | .tup _, .lst _ _, _, h => by simp [nOk] at h
  | .tup _, .ins _ _ _, _, h => by simp [nOk] at h
  | .tup _, .scr _, _, h => by simp [nOk] at h
  | .tup _, .dic _ _ _ _, _, h => by simp [nOk] at h
  | .tup _, .clo _ _, _, h => by simp [nOk] at h
  | .tup _, .fn _ _, _, h => by simp [nOk] at h
  | .tup _, .tbs, _, h => by simp [nOk] at h
theorem eqvs_nk : ∀ a b : List D, nOks a = true → nOks b = true → PySem.PyData.eqvAll (toPDs a) (toPDs b) = PySem.NestedKey.beqAll (nks a) (nks b)
  | [], [], _, _ => by simp only [toPDs, PySem.PyData.eqvAll, nks, PySem.NestedKey.beqAll]
  | [], _ :: _, _, _ => by simp only [toPDs, PySem.PyData.eqvAll, nks, PySem.NestedKey.beqAll]
  | _ :: _, [], _, _ => by simp only [toPDs, PySem.PyData.eqvAll, nks, PySem.NestedKey.beqAll]
  | a :: as, b :: bs, ha, hb => by
    simp only [nOks, Bool.and_eq_true] at ha hb
    simp only [toPDs, PySem.PyData.eqvAll, nks, PySem.NestedKey.beqAll, eqv_nk a b ha.1 hb.1, eqvs_nk as bs ha.2 hb.2]
end
theorem kOk2_nOk {d : D} (h : kOk 2 d = true) : nOk d = true := by
  rcases kOk_of h with ⟨h, _⟩ | ⟨h, _⟩ | ⟨_, ds, rfl, h, _⟩
  · cases h
  · cases h
  · exact h
theorem kOk2_depth {d : D} (h : kOk 2 d = true) : (nk d).depth ≤ 8 := by
  rcases kOk_of h with ⟨h, _⟩ | ⟨h, _⟩ | ⟨_, ds, rfl, _, h⟩
  · cases h
  · cases h
  · exact h
theorem kOks_n {t : Nat} (ht : 2 ≤ t) : ∀ {ks : List D}, ks.all (kOk t) = true → nOks ks = true
  | [], _ => rfl
  | k :: ks, h => by
    simp only [List.all_cons, Bool.and_eq_true] at h
    simp only [nOks, Bool.and_eq_true]
    refine ⟨?_, kOks_n ht h.2⟩
    rcases kOk_of h.1 with ⟨h, _⟩ | ⟨h, _⟩ | ⟨_, ds, rfl, h, _⟩
    · omega
    · omega
    · exact h
mutual
theorem nOk_noL : ∀ d : D, nOk d = true → noL d = true
  | .int _, _ => rfl
  | .tup ds, h => nOks_noL ds h
  | .non, h => by simp [nOk] at h
  | .bl _, h => by simp [nOk] at h
  | .str _, h => by simp [nOk] at h
  | .lst _ _, h => by simp [nOk] at h
  | .ins _ _ _, h => by simp [nOk] at h
  | .scr _, h => by simp [nOk] at h
  | .dic _ _ _ _, h => by simp [nOk] at h
  | .clo _ _, h => by simp [nOk] at h
  | .fn _ _, h => by simp [nOk] at h
  | .tbs, h => by simp [nOk] at h
theorem nOks_noL : ∀ ds : List D, nOks ds = true → noLs ds = true
  | [], _ => rfl
  | d :: ds, h => by
    simp only [nOks, Bool.and_eq_true] at h
    simp only [noLs, Bool.and_eq_true]
    exact ⟨nOk_noL d h.1, nOks_noL ds h.2⟩
end
mutual
theorem nOk_noFd : ∀ d : D, nOk d = true → noFd d = true
  | .int _, _ => rfl
  | .tup ds, h => nOks_noFd ds h
  | .non, h => by simp [nOk] at h
  | .bl _, h => by simp [nOk] at h
  | .str _, h => by simp [nOk] at h
  | .lst _ _, h => by simp [nOk] at h
  | .ins _ _ _, h => by simp [nOk] at h
  | .scr _, h => by simp [nOk] at h
  | .dic _ _ _ _, h => by simp [nOk] at h
  | .clo _ _, h => by simp [nOk] at h
  | .fn _ _, h => by simp [nOk] at h
  | .tbs, h => by simp [nOk] at h
theorem nOks_noFd : ∀ ds : List D, nOks ds = true → noFds ds = true
  | [], _ => rfl
  | d :: ds, h => by
    simp only [nOks, Bool.and_eq_true] at h
    simp only [noFds, Bool.and_eq_true]
    exact ⟨nOk_noFd d h.1, nOks_noFd ds h.2⟩
end
mutual
theorem nk_num : ∀ d : D, nOk d = true → numK (nk d) = true
  | .int _, _ => rfl
  | .tup ds, h => nks_num ds h
  | .non, h => by simp [nOk] at h
  | .bl _, h => by simp [nOk] at h
  | .str _, h => by simp [nOk] at h
  | .lst _ _, h => by simp [nOk] at h
  | .ins _ _ _, h => by simp [nOk] at h
  | .scr _, h => by simp [nOk] at h
  | .dic _ _ _ _, h => by simp [nOk] at h
  | .clo _ _, h => by simp [nOk] at h
  | .fn _ _, h => by simp [nOk] at h
  | .tbs, h => by simp [nOk] at h
theorem nks_num : ∀ ds : List D, nOks ds = true → numKs (nks ds) = true
  | [], _ => rfl
  | d :: ds, h => by
    simp only [nOks, Bool.and_eq_true] at h
    simp only [nks, numKs, Bool.and_eq_true]
    exact ⟨nk_num d h.1, nks_num ds h.2⟩
end
theorem eqD_kN {a b : D} (ha : kOk 2 a = true) (hb : kOk 2 b = true) : eqD a b = decide (nk a = nk b) := by
  rw [PySem.NestedKey.decide_eq, eqD, eqv_nk a b (kOk2_nOk ha) (kOk2_nOk hb)]
/-- what is found in a dict -/
theorem dval_rel {κ : Type} [DecidableEq κ] (ky : D → κ) {t : Nat} (he : ∀ a b, kOk t a = true → kOk t b = true → eqD a b = decide (ky a = ky b)) {kd : D} (hk : kOk t kd = true) : ∀ {ks ds : List D} {vs : List V} {P : Fp}, ks.all (kOk t) = true → ks.length = ds.length → Reps S F H ds vs P →
    (memD kd ks = true ∧ ∃ d v P1, dval ks ds kd = some d ∧ valV ((ks.map ky).zip vs) (ky kd) = some v ∧ Rep S F H d v P1 ∧ ∀ x, P1 x → P x) ∨ (memD kd ks = false ∧ dval ks ds kd = none ∧ valV ((ks.map ky).zip vs) (ky kd) = none)
  | [], ds, vs, P, _, hl, r => .inr ⟨rfl, rfl, rfl⟩
  | k :: ks, [], vs, P, _, hl, r => by simp at hl
  | k :: ks, d :: ds, vs, P, ha, hl, r => by
    simp only [List.all_cons, Bool.and_eq_true] at ha
    simp only [Reps] at r
    obtain ⟨v, vr, P1, P2, rfl, rfl, di, r1, r2⟩ := r
    have e := he k kd ha.1 hk
    by_cases h : ky k = ky kd
    · rw [decide_eq_true h] at e
      exact .inl ⟨by simp [memD, e], d, v, P1, by simp [dval, e], by rw [List.map_cons, List.zip_cons_cons]; exact valV_pos h, r1, fun x hx => .inl hx⟩
    · rw [decide_eq_false h] at e
      have hv : valV (((k :: ks).map ky).zip (v :: vr)) (ky kd) = valV ((ks.map ky).zip vr) (ky kd) := by rw [List.map_cons, List.zip_cons_cons]; exact valV_neg h
      rcases dval_rel ky he hk ha.2 (by simpa using hl) r2 with ⟨h1, d', v', P', h2, h3, h4, h5⟩ | ⟨h1, h2, h3⟩
      · exact .inl ⟨by simpa [memD, e] using h1, d', v', P', by simp [dval, e, h2], by rw [hv, h3], h4, fun x hx => .inr (h5 x hx)⟩
      · exact .inr ⟨by simpa [memD, e] using h1, by simp [dval, e, h2], by rw [hv, h3]⟩
theorem Rep.dic_at {m : Bool} {t : Nat} {ks ds : List D} {v : V} {P : Fp} (hs : Same F H) (h : Rep S F H (.dic m t ks ds) v P) : ∃ a vs P' bs, v = .ref a ∧ ks.all (kOk t) = true ∧ ks.length = ds.length ∧ Rd H a (dO a t bs ks vs) ∧ Reps S F H ds vs P' ∧ (∀ x, P' x → P x) ∧ (2 ≤ t → Reps S F H ks bs Emp) := by
  simp only [Rep] at h
  obtain ⟨a, vs, bs, rfl, hk, hl, hb, h⟩ := h
  split at h
  · obtain ⟨ea, pa, P', np, eP, h⟩ := h
    exact ⟨a, vs, P', bs, rfl, hk, hl, .inl ea, h, fun x hx => by rw [eP]; exact .inr hx, hb⟩
  · exact ⟨a, vs, Emp, bs, rfl, hk, hl, Same.rd hs h.2.1, h.2.2, fun x hx => hx.elim, hb⟩
mutual
theorem Rep.kn (hs : Same F H) : ∀ (d : D) {v : V} {P : Fp}, nOk d = true → Rep S F H d v P → KN H (nk d) v
  | .int i, v, P, _, h => by
    simp only [Rep] at h
    simp only [nk, KN]; exact h.1
  | .tup ds, v, P, n, h => by
    simp only [Rep] at h
    obtain ⟨_, a, vs, rfl, ea, h⟩ := h
    simp only [nk, KN]
    exact ⟨a, vs, rfl, hs _ _ ea, Reps.kn hs ds n h⟩
  | .non, v, P, n, h => by simp [nOk] at n
  | .bl _, v, P, n, h => by simp [nOk] at n
  | .str _, v, P, n, h => by simp [nOk] at n
  | .lst _ _, v, P, n, h => by simp [nOk] at n
  | .ins _ _ _, v, P, n, h => by simp [nOk] at n
  | .scr _, v, P, n, h => by simp [nOk] at n
  | .dic _ _ _ _, v, P, n, h => by simp [nOk] at n
theorem Reps.kn (hs : Same F H) : ∀ (ds : List D) {vs : List V} {P : Fp}, nOks ds = true → Reps S F H ds vs P → KNs H (nks ds) vs
  | [], vs, P, _, h => by
    simp only [Reps] at h
    simp only [nks, KNs]; exact h.1
  | d :: ds, vs, P, n, h => by
    simp only [nOks, Bool.and_eq_true] at n
    simp only [Reps] at h
    obtain ⟨v, r, P1, P2, e, _, _, h1, h2⟩ := h
    simp only [nks, KNs]
    exact ⟨v, r, e, Rep.kn hs d n.1 h1, Reps.kn hs ds n.2 h2⟩
end
theorem kb_of (hs : Same F H) : ∀ {ks : List D} {bs vs : List V} {P : Fp}, ks.all (kOk 2) = true → vs.length = ks.length → Reps S F H ks bs P → KB H ((ks.map nk).zip vs) bs
  | [], bs, vs, P, _, _, h => by
    simp only [Reps] at h
    obtain ⟨rfl, _⟩ := h
    exact .nil
  | k :: ks, bs, [], P, _, hl, h => by simp at hl
  | k :: ks, bs, v :: vs, P, hk, hl, h => by
    simp only [List.all_cons, Bool.and_eq_true] at hk
    simp only [Reps] at h
    obtain ⟨b, r, P1, P2, rfl, _, _, h1, h2⟩ := h
    rw [List.map_cons, List.zip_cons_cons]
    exact .cons ⟨Rep.kn hs k (kOk2_nOk hk.1) h1, kOk2_depth hk.1⟩ (kb_of hs hk.2 (by simpa using hl) h2)
theorem key_at {kd : D} {y : V} {Pk : Fp} (hs : Same F H) (r : Rep S F H kd y Pk) : (kOk 0 kd = true → y = kV (kI kd)) ∧ (kOk 1 kd = true → ∃ b, y = .ref b ∧ H b = some (.tup ((kT kd).map kV))) ∧ (kOk 2 kd = true → ∃ b, y = .ref b ∧ KN H (nk kd) y ∧ (nk kd).depth ≤ 8 ∧ numK (nk kd) = true) := by
  refine ⟨fun h => ?_, fun h => ?_, fun h => ?_⟩
  · rcases kOk_of h with ⟨_, i, rfl⟩ | ⟨h, _⟩ | ⟨h, _⟩
    · simp only [Rep] at r; exact r.1
    · cases h
    · cases h
  · rcases kOk_of h with ⟨h, _⟩ | ⟨_, l, rfl⟩ | ⟨h, _⟩
    · cases h
    · simp only [Rep] at r
      obtain ⟨_, b, vs, rfl, eb, rs⟩ := r
      obtain ⟨rfl, _⟩ := rs.ints
      refine ⟨b, rfl, ?_⟩
      rw [hs _ _ eb]
      simp only [kT, List.map_map]
      congr 2
    · cases h
  · have kn := Rep.kn hs kd (kOk2_nOk h) r
    rcases kOk_of h with ⟨h, _⟩ | ⟨h, _⟩ | ⟨_, ds, rfl, _, _⟩
    · cases h
    · cases h
    · have r2 := r
      simp only [Rep] at r2
      obtain ⟨_, b, vs, rfl, _, _⟩ := r2
      exact ⟨b, rfl, kn, kOk2_depth h, nk_num _ (kOk2_nOk h)⟩
/-- what a dict's reading finds -/
theorem dget_rep {m : Bool} {t : Nat} {ks ds : List D} {kd : D} {x y : V} {P Pk : Fp} (hs : Same F H) (r : Rep S F H (.dic m t ks ds) x P) (rk : Rep S F H kd y Pk) (hk : kOk t kd = true) :
    ∃ a, x = .ref a ∧ ((memD kd ks = true ∧ ∃ d v P1, dval ks ds kd = some d ∧ GetA H a y (some v) ∧ Rep S F H d v P1 ∧ ∀ z, P1 z → P z) ∨ (memD kd ks = false ∧ dval ks ds kd = none ∧ GetA H a y none)) := by
  obtain ⟨a, vs, P', bs, rfl, ha, hl, hd, rs, sb, hb⟩ := r.dic_at hs
  refine ⟨a, rfl, ?_⟩
  obtain ⟨k0, k1, k2⟩ := key_at hs rk
  rcases kOk_of hk with ⟨rfl, _⟩ | ⟨rfl, _⟩ | ⟨rfl, _⟩
  · have ey := k0 hk
    subst ey
    simp only [dO, if_true] at hd
    rcases dval_rel kI (fun a b => eqD_kI) hk ha hl rs with ⟨h1, d, v, P1, h2, h3, h4, h5⟩ | ⟨h1, h2, h3⟩
    · exact .inl ⟨h1, d, v, P1, h2, .inl (.inl ⟨_, _, hd, rfl, h3.symm⟩), h4, fun z hz => sb z (h5 z hz)⟩
    · exact .inr ⟨h1, h2, .inl (.inl ⟨_, _, hd, rfl, h3.symm⟩)⟩
  · obtain ⟨b, rfl, eb⟩ := k1 hk
    rw [dO, if_neg (by decide), if_pos rfl] at hd
    rcases dval_rel kT (fun a b => eqD_kT) hk ha hl rs with ⟨h1, d, v, P1, h2, h3, h4, h5⟩ | ⟨h1, h2, h3⟩
    · exact .inl ⟨h1, d, v, P1, h2, .inl (.inr ⟨_, _, b, hd, rfl, eb, h3.symm⟩), h4, fun z hz => sb z (h5 z hz)⟩
    · exact .inr ⟨h1, h2, .inl (.inr ⟨_, _, b, hd, rfl, eb, h3.symm⟩)⟩
  · obtain ⟨b, rfl, kn, dp, _⟩ := k2 hk
    rw [dO, if_neg (by decide), if_neg (by decide)] at hd
    have kb := kb_of hs ha (by rw [Reps.len rs, hl]) (hb (Nat.le_refl 2))
    rcases dval_rel nk (fun a b => eqD_kN) hk ha hl rs with ⟨h1, d, v, P1, h2, h3, h4, h5⟩ | ⟨h1, h2, h3⟩
    · exact .inl ⟨h1, d, v, P1, h2, .inr ⟨_, _, _, b, hd, kb, rfl, kn, dp, h3.symm⟩, h4, fun z hz => sb z (h5 z hz)⟩
    · exact .inr ⟨h1, h2, .inr ⟨_, _, _, b, hd, kb, rfl, kn, dp, h3.symm⟩⟩
theorem memD_eq (x : D) (ys : List D) : memD x ys = (toPDs ys).any fun z => PyData.eqv z (toPD x) := by
  unfold memD eqD
  rw [toPDs_map, List.any_map]
  rfl
theorem in_ok (hK : S.K = X.K) (hu : X.A.units + 65 < cLine) : OpR X (compareOp .In) (rGB S (cmp .inn)) := by
  intro pins s σ H x y v u Q I rx ry h
  obtain ⟨F, d1, d2, b, P1, P2, hs, r1, r2, hb, q⟩ := h
  by_cases hd : ∃ m t ks ds, d2 = .dic m t ks ds
  · obtain ⟨m, t, ks, ds, rfl⟩ := hd
    simp only [cmp] at hb
    split at hb
    · rename_i hk
      cases hb
      obtain ⟨a, rfl, h⟩ := dget_rep hs r2 r1 hk
      obtain rfl : u = Value.ref a := ry
      rcases h with ⟨h1, d, v, P1', h2, h3, _⟩ | ⟨h1, h2, h3⟩
      · exact a_in (by omega) I h3 rx fun s' I' => ⟨.bl _, H, I', rfl, by rw [h1] at q; exact q⟩
      · exact a_in (by omega) I h3 rx fun s' I' => ⟨.bl _, H, I', rfl, by rw [h1] at q; exact q⟩
    · cases hb
  have hb : ((itemsOf d2).bind fun ds => if (plain d1 && plains ds) = true then some (memD d1 ds) else none) = some b := by
    cases d2 <;> first | exact hb | exact absurd ⟨_, _, _, _, rfl⟩ hd
  simp only [Option.bind_eq_some_iff] at hb
  obtain ⟨ds, h1, h2⟩ := hb
  split at h2
  · rename_i hp
    cases h2
    simp only [Bool.and_eq_true] at hp
    obtain ⟨l1, l2, l3⟩ := plains_shaped hp.2
    obtain ⟨as, R1⟩ := Dp.reads I _ _ _ (by have := r1.dp hs d1 (plain_plain0 hp.1); rwa [hK] at this) rx
    cases d2 <;> simp only [itemsOf, Option.some.injEq, reduceCtorEq] at h1
    · subst h1
      obtain ⟨bs, R2⟩ := Dp.reads I _ _ _ (by have := r2.dp hs _ (by simp only [plain0]; exact l3); rwa [hK] at this) ry
      simp only [toPD] at R2
      exact SeqAt.in_tuple_reads R2 R1 l1 (lay_toPD d1 (plain_plain0 hp.1)) (PyProof.Rows.room_in_shaped (shaped_of hp.1) hu) ⟨.bl _, H, I, rfl, by rw [← memD_eq]; exact q⟩
    · subst h1
      obtain ⟨bs, R2⟩ := Dp.reads I _ _ _ (by have := r2.dp hs _ (by simp only [plain0]; exact l3); rwa [hK] at this) ry
      simp only [toPD] at R2
      exact SeqAt.in_list_reads R2 R1 l1 (lay_toPD d1 (plain_plain0 hp.1)) (PyProof.Rows.room_in_shaped (shaped_of hp.1) hu) ⟨.bl _, H, I, rfl, by rw [← memD_eq]; exact q⟩
  · cases h2
theorem nin_ok (hK : S.K = X.K) (hu : X.A.units + 65 < cLine) : OpR X (compareOp .NotIn) (rGB S (cmp .nin)) := by
  intro pins s σ H x y v u Q I rx ry h
  obtain ⟨F, d1, d2, b, P1, P2, hs, r1, r2, hb, q⟩ := h
  by_cases hd : ∃ m t ks ds, d2 = .dic m t ks ds
  · obtain ⟨m, t, ks, ds, rfl⟩ := hd
    simp only [cmp] at hb
    split at hb
    · rename_i hk
      cases hb
      obtain ⟨a, rfl, h⟩ := dget_rep hs r2 r1 hk
      obtain rfl : u = Value.ref a := ry
      rcases h with ⟨h1, d, v, P1', h2, h3, _⟩ | ⟨h1, h2, h3⟩
      · exact a_notIn (by omega) I h3 rx fun s' I' => ⟨.bl _, H, I', rfl, by rw [h1] at q; exact q⟩
      · exact a_notIn (by omega) I h3 rx fun s' I' => ⟨.bl _, H, I', rfl, by rw [h1] at q; exact q⟩
    · cases hb
  have hb : ((itemsOf d2).bind fun ds => if (plain d1 && plains ds) = true then some (!memD d1 ds) else none) = some b := by
    cases d2 <;> first | exact hb | exact absurd ⟨_, _, _, _, rfl⟩ hd
  simp only [Option.bind_eq_some_iff] at hb
  obtain ⟨ds, h1, h2⟩ := hb
  split at h2
  · rename_i hp
    cases h2
    simp only [Bool.and_eq_true] at hp
    obtain ⟨l1, l2, l3⟩ := plains_shaped hp.2
    obtain ⟨as, R1⟩ := Dp.reads I _ _ _ (by have := r1.dp hs d1 (plain_plain0 hp.1); rwa [hK] at this) rx
    cases d2 <;> simp only [itemsOf, Option.some.injEq, reduceCtorEq] at h1
    · subst h1
      obtain ⟨bs, R2⟩ := Dp.reads I _ _ _ (by have := r2.dp hs _ (by simp only [plain0]; exact l3); rwa [hK] at this) ry
      simp only [toPD] at R2
      exact SeqAt.notIn_tuple_reads R2 R1 l1 (lay_toPD d1 (plain_plain0 hp.1)) (PyProof.Rows.room_in_shaped (shaped_of hp.1) hu) ⟨.bl _, H, I, rfl, by rw [← memD_eq]; exact q⟩
    · subst h1
      obtain ⟨bs, R2⟩ := Dp.reads I _ _ _ (by have := r2.dp hs _ (by simp only [plain0]; exact l3); rwa [hK] at this) ry
      simp only [toPD] at R2
      exact SeqAt.notIn_list_reads R2 R1 l1 (lay_toPD d1 (plain_plain0 hp.1)) (PyProof.Rows.room_in_shaped (shaped_of hp.1) hu) ⟨.bl _, H, I, rfl, by rw [← memD_eq]; exact q⟩
  · cases h2

theorem eq_ok (hK : S.K = X.K) (hu : X.A.units + 64 < cLine) : OpR X (compareOp .Eq) (rGB S (cmp .eq)) := by
  intro pins s σ H x y v u Q I rx ry h
  obtain ⟨F, d1, d2, b, P1, P2, hs, r1, r2, hb, q⟩ := h
  simp only [cmp] at hb
  split at hb
  · rename_i hp
    cases hb
    simp only [Bool.and_eq_true] at hp
    have e1 := r1.dp hs d1 (plain_plain0 hp.1)
    have e2 := r2.dp hs d2 (plain_plain0 hp.2)
    rw [hK] at e1 e2
    exact op_eqD hu pins s σ H x y v u Q I rx ry ⟨_, _, e1, e2, shaped_of hp.1, shaped_of hp.2, q⟩
  · cases hb
theorem ne_ok (hK : S.K = X.K) (hu : X.A.units + 64 < cLine) : OpR X (compareOp .NotEq) (rGB S (cmp .ne)) := by
  intro pins s σ H x y v u Q I rx ry h
  obtain ⟨F, d1, d2, b, P1, P2, hs, r1, r2, hb, q⟩ := h
  simp only [cmp] at hb
  split at hb
  · rename_i hp
    cases hb
    simp only [Bool.and_eq_true] at hp
    have e1 := r1.dp hs d1 (plain_plain0 hp.1)
    have e2 := r2.dp hs d2 (plain_plain0 hp.2)
    rw [hK] at e1 e2
    exact op_neD hu pins s σ H x y v u Q I rx ry ⟨_, _, e1, e2, shaped_of hp.1, shaped_of hp.2, q⟩
  · cases hb
theorem lt_ok (hu : X.A.units < cLine) : OpR X (compareOp .Lt) (rGB S (cmp .lt)) := by
  intro pins s σ H x y v u Q I rx ry h
  obtain ⟨F, d1, d2, b, P1, P2, hs, r1, r2, hb, q⟩ := h
  simp only [cmp] at hb
  split at hb
  · cases hb
    obtain ⟨rfl, _⟩ := rep_int.mp r1
    obtain ⟨rfl, _⟩ := rep_int.mp r2
    exact op_lt pins s σ H _ _ v u Q I rx ry ⟨_, _, rfl, rfl, q⟩
  · simp only [Option.bind_eq_some_iff, Option.map_eq_some_iff] at hb
    obtain ⟨is, h1, js, h2, rfl⟩ := hb
    have e1 := intsOf_eq h1
    have e2 := intsOf_eq h2
    subst e1 e2
    obtain ⟨_, a, vs, rfl, ea, g1⟩ := rep_tup.mp r1
    obtain ⟨_, b, ws, rfl, eb, g2⟩ := rep_tup.mp r2
    obtain ⟨rfl, _⟩ := g1.ints
    obtain ⟨rfl, _⟩ := g2.ints
    exact op_ltT hu pins s σ H _ _ v u Q I rx ry ⟨a, b, is, js, rfl, rfl, SqT.of (hs _ _ ea), SqT.of (hs _ _ eb), q⟩
  · cases hb
theorem le_ok : OpR X (compareOp .LtE) (rGB S (cmp .le)) := by
  intro pins s σ H x y v u Q I rx ry h
  obtain ⟨F, d1, d2, b, P1, P2, hs, r1, r2, hb, q⟩ := h
  simp only [cmp] at hb
  split at hb
  · cases hb
    obtain ⟨rfl, _⟩ := rep_int.mp r1
    obtain ⟨rfl, _⟩ := rep_int.mp r2
    exact op_le pins s σ H _ _ v u Q I rx ry ⟨_, _, rfl, rfl, q⟩
  · cases hb
theorem gt_ok : OpR X (compareOp .Gt) (rGB S (cmp .gt)) := by
  intro pins s σ H x y v u Q I rx ry h
  obtain ⟨F, d1, d2, b, P1, P2, hs, r1, r2, hb, q⟩ := h
  simp only [cmp] at hb
  split at hb
  · cases hb
    obtain ⟨rfl, _⟩ := rep_int.mp r1
    obtain ⟨rfl, _⟩ := rep_int.mp r2
    exact op_gt pins s σ H _ _ v u Q I rx ry ⟨_, _, rfl, rfl, q⟩
  · cases hb
theorem ge_ok : OpR X (compareOp .GtE) (rGB S (cmp .ge)) := by
  intro pins s σ H x y v u Q I rx ry h
  obtain ⟨F, d1, d2, b, P1, P2, hs, r1, r2, hb, q⟩ := h
  simp only [cmp] at hb
  split at hb
  · cases hb
    obtain ⟨rfl, _⟩ := rep_int.mp r1
    obtain ⟨rfl, _⟩ := rep_int.mp r2
    exact op_ge pins s σ H _ _ v u Q I rx ry ⟨_, _, rfl, rfl, q⟩
  · cases hb
theorem cmp_ok (hK : S.K = X.K) (hu : X.A.units + 65 < cLine) : ∀ c : Cmp, OpR X (compareOp (opC c)) (rGB S (cmp c))
  | .eq => eq_ok hK (by omega)
  | .ne => ne_ok hK (by omega)
  | .lt => lt_ok (by omega)
  | .le => le_ok
  | .gt => gt_ok
  | .ge => ge_ok
  | .inn => in_ok hK hu
  | .nin => nin_ok hK hu

/-! ### subscripts, slices -/
theorem atI_rep {ds : List D} {vs : List V} {P : Fp} {k : Int} {d : D} (h : Reps S F H ds vs P) (e : atI ds k = some d) : ∃ v P1, atI vs k = some v ∧ Rep S F H d v P1 ∧ ∀ x, P1 x → P x := by
  unfold atI at e ⊢
  simp only [Option.bind_eq_some_iff] at e
  obtain ⟨j, e1, e2⟩ := e
  rw [Reps.len h, e1]
  have go : ∀ {ds : List D} {vs : List V} {P : Fp} {j : Nat}, Reps S F H ds vs P → ds[j]? = some d → ∃ v P1, vs[j]? = some v ∧ Rep S F H d v P1 ∧ ∀ x, P1 x → P x := by
    intro ds
    induction ds with
    | nil => intro vs P j _ e; simp at e
    | cons d0 ds ih =>
      intro vs P j h e
      simp only [Reps] at h
      obtain ⟨v, r, P1, P2, rfl, eP, _, h1, h2⟩ := h
      cases j with
      | zero => simp at e; subst e; exact ⟨v, P1, rfl, h1, fun x hx => by rw [eP]; exact .inl hx⟩
      | succ j =>
        obtain ⟨v', P', e', r', s'⟩ := ih h2 (by simpa using e)
        exact ⟨v', P', by simpa using e', r', fun x hx => by rw [eP]; exact .inr (s' x hx)⟩
  obtain ⟨v, P1, e3, r, s⟩ := go h e2
  exact ⟨v, P1, by simpa using e3, r, s⟩
/-- what an item is: within the whole, or new -/
def rIx (S : Sig) : R2 := fun x y H Q => ∃ F d1 d P1 k, Same F H ∧ Rep S F H d1 x P1 ∧ y = .int k ∧ getIx d1 k = some d ∧ ∀ v Pd, Rep S F H d v Pd → (∀ x, Pd x → P1 x) → Q v H
theorem ix_ok (hK : S.K = X.K) : IxR X (Ab.rIx S) := by
  intro value slice pins s σ H x y v u Q I rx ry h hpl
  obtain ⟨F, d1, d, P1, k, hs, r1, rfl, hb, q⟩ := h
  unfold getIx at hb
  split at hb
  · rename_i m ds
    simp only [Rep] at r1
    obtain ⟨a, vs, rfl, r1⟩ := r1
    split at r1
    · obtain ⟨ea, _, P', _, eP, h1⟩ := r1
      obtain ⟨w, Pw, e2, r, sb⟩ := atI_rep h1 hb
      exact ix_list value slice pins s σ H _ _ v u Q I rx ry ⟨a, vs, k, w, rfl, rfl, SqL.of ea, e2, q _ _ r fun x hx => by rw [eP]; exact .inr (sb x hx)⟩ hpl
    · obtain ⟨eP, ea, h1⟩ := r1
      obtain ⟨w, Pw, e2, r, sb⟩ := atI_rep h1 hb
      exact ix_list value slice pins s σ H _ _ v u Q I rx ry ⟨a, vs, k, w, rfl, rfl, SqL.of (hs _ _ ea), e2, q _ _ r fun x hx => (sb x hx).elim⟩ hpl
  · rename_i ds
    obtain ⟨_, a, vs, rfl, ea, h1⟩ := rep_tup.mp r1
    obtain ⟨w, Pw, e2, r, sb⟩ := atI_rep h1 hb
    exact ix_tup value slice pins s σ H _ _ v u Q I rx ry ⟨a, vs, k, w, rfl, rfl, SqT.of (hs _ _ ea), e2, q _ _ r fun x hx => (sb x hx).elim⟩ hpl
  · rename_i is
    simp only [Rep] at r1
    obtain ⟨_, a, rfl, hq⟩ := r1
    simp only [Option.map_eq_some_iff] at hb
    obtain ⟨i, e1, rfl⟩ := hb
    refine ix_list value slice pins s σ H _ _ v u Q I rx ry ⟨a, is.map V.int, k, .int i, rfl, rfl, by rw [← hK]; exact hs.seq hq, ?_, q _ Emp (rep_int.mpr ⟨rfl, rfl⟩) fun x hx => hx.elim⟩ hpl
    unfold atI at e1 ⊢
    simp only [Option.bind_eq_some_iff] at e1 ⊢
    obtain ⟨j, e1, e2⟩ := e1
    exact ⟨j, by rw [List.length_map]; exact e1, by rw [List.getElem?_map, e2]; rfl⟩
  · split at hb
    · rename_i z hz
      simp only [Option.map_eq_some_iff] at hb
      obtain ⟨c, e1, rfl⟩ := hb
      obtain ⟨rfl, _⟩ := rep_str.mp r1
      exact ix_str value slice pins s σ H _ _ v u Q I rx ry ⟨z, k, c, rfl, rfl, hz, e1, q _ Emp (rep_str.mpr ⟨rfl, rfl⟩) fun x hx => hx.elim⟩ hpl
    · cases hb
  · cases hb
end
end Ab
namespace Ab
open PySem L2

def rC1 (S : Sig) (f : D → Option D) : List V → Hp → VK → Prop := fun xs H Q => ∃ x F d1 d P1, xs = [x] ∧ Same F H ∧ Rep S F H d1 x P1 ∧ f d1 = some d ∧ ∀ v F' H' Pd, New S F H d v F' H' Pd → Q v H'
section
variable {X : Cx} {S : Sig} {F H : Hp}
/-- a sequence that is read -/
theorem items_at {d : D} {ds : List D} {v : V} {P : Fp} (hs : Same F H) (r : Rep S F H d v P) (e : itemsOf d = some ds) :
    (∃ m, d = .lst m ds ∧ ∃ a vs P', v = .ref a ∧ H a = some (.lst vs) ∧ Reps S F H ds vs P') ∨ (d = .tup ds ∧ ∃ a vs, v = .ref a ∧ F a = some (.tup vs) ∧ Reps S F H ds vs Emp) := by
  cases d <;> simp only [itemsOf, Option.some.injEq, reduceCtorEq] at e
  · subst e
    obtain ⟨_, a, vs, rfl, ea, h⟩ := rep_tup.mp r
    exact .inr ⟨rfl, a, vs, rfl, ea, h⟩
  · subst e
    obtain ⟨a, vs, P', rfl, ea, h⟩ := r.lst_at hs
    exact .inl ⟨_, rfl, a, vs, P', rfl, ea, h⟩
theorem len_ok (hK : S.K = X.K) : CallR X (.builtin "len") (rC1 S (bi1 .len)) := by
  intro pins s σ H xs us Q I r h
  obtain ⟨x, F, d1, d, P1, rfl, hs, r1, hb, q⟩ := h
  cases d1 <;> simp only [bi1, Option.some.injEq, reduceCtorEq] at hb
  · rename_i z
    split at hb
    · rename_i hz
      cases hb
      obtain ⟨rfl, _⟩ := rep_str.mp r1
      exact call_len pins s σ H _ us Q I r ⟨_, _, rfl, ⟨hz, rfl⟩, q _ _ _ _ (.int hs)⟩
    · cases hb
  · subst hb
    obtain ⟨_, a, vs, rfl, ea, h⟩ := rep_tup.mp r1
    exact call_len pins s σ H _ us Q I r ⟨_, _, rfl, .inr ⟨vs, SqT.of (hs _ _ ea), by rw [Reps.len h]⟩, q _ _ _ _ (.int hs)⟩
  · subst hb
    obtain ⟨a, vs, P', rfl, ea, h⟩ := r1.lst_at hs
    exact call_len pins s σ H _ us Q I r ⟨_, _, rfl, .inl ⟨vs, SqL.of ea, by rw [Reps.len h]⟩, q _ _ _ _ (.int hs)⟩
  · subst hb
    simp only [Rep] at r1
    obtain ⟨_, a, rfl, hq⟩ := r1
    exact call_len pins s σ H _ us Q I r ⟨_, _, rfl, .inl ⟨_, by rw [← hK]; exact hs.seq hq, by rw [List.length_map]⟩, q _ _ _ _ (.int hs)⟩
theorem list_ok (hK : S.K = X.K) : CallR X (.type "list") (rC1 S (bi1 .list)) := by
  intro pins s σ H xs us Q I r h
  obtain ⟨x, F, d1, d, P1, rfl, hs, r1, hb, q⟩ := h
  have gen : ∀ ds, itemsOf d1 = some ds → (if stills ds = true then some (D.lst true ds) else none) = some d → wpAny (model X.prog X.w) X.A (call (.type "list") us) (EP X pins σ Q) X.xe s := fun ds e hb => by
    split at hb
    · rename_i hst
      cases hb
      rcases items_at hs r1 e with ⟨m, rfl, a, vs, P', rfl, ea, h⟩ | ⟨rfl, a, vs, rfl, ea, h⟩
      · rw [Reps.still ds h hst] at h
        exact call_list_of pins s σ H _ us Q I r ⟨a, vs, rfl, .inl (SqL.of ea), fun p hp => q _ _ _ _ (.lst hs h hp)⟩
      · exact call_list_of pins s σ H _ us Q I r ⟨a, vs, rfl, .inr (SqT.of (hs _ _ ea)), fun p hp => q _ _ _ _ (.lst hs h hp)⟩
    · cases hb
  cases d1
  all_goals try (simp only [bi1, itemsOf, Option.bind_none, reduceCtorEq] at hb; done)
  · exact gen _ rfl (by simpa [bi1, itemsOf] using hb)
  · exact gen _ rfl (by simpa [bi1, itemsOf] using hb)
  · simp only [bi1, Option.some.injEq] at hb
    subst hb
    simp only [Rep] at r1
    obtain ⟨_, a, rfl, hq⟩ := r1
    exact call_list_of pins s σ H _ us Q I r ⟨a, _, rfl, .inl (by rw [← hK]; exact hs.seq hq), fun p hp => q _ _ _ _ (.lst hs (Reps.ofInts _) hp)⟩
theorem tuple_ok (hK : S.K = X.K) : CallR X (.type "tuple") (rC1 S (bi1 .tuple)) := by
  intro pins s σ H xs us Q I r h
  obtain ⟨x, F, d1, d, P1, rfl, hs, r1, hb, q⟩ := h
  simp only [bi1, Option.bind_eq_some_iff] at hb
  obtain ⟨ds, e, hb⟩ := hb
  split at hb
  · rename_i hst
    cases hb
    rcases items_at hs r1 e with ⟨m, rfl, a, vs, P', rfl, ea, h⟩ | ⟨rfl, a, vs, rfl, ea, h⟩
    · rw [Reps.still ds h hst] at h
      exact call_tuple_of pins s σ H _ us Q I r ⟨a, vs, rfl, .inl ⟨SqL.of ea, fun p hp => q _ _ _ _ (.tup hs h hp)⟩⟩
    · exact call_tuple_of pins s σ H _ us Q I r ⟨a, vs, rfl, .inr ⟨SqT.of (hs _ _ ea), q _ _ _ _ (.flat hs (rep_tup.mpr ⟨rfl, a, vs, rfl, ea, h⟩))⟩⟩
  · cases hb
theorem int_ok : CallR X (.type "int") (rC1 S (bi1 .int)) := by
  intro pins s σ H xs us Q I r h
  obtain ⟨x, F, d1, d, P1, rfl, hs, r1, hb, q⟩ := h
  cases d1 <;> simp only [bi1, Option.some.injEq, reduceCtorEq] at hb
  · subst hb
    obtain ⟨rfl, _⟩ := rep_bl.mp r1
    exact call_int1 pins s σ H _ us Q I r (.inr ⟨_, rfl, q _ _ _ _ (.int hs)⟩)
  · subst hb
    obtain ⟨rfl, _⟩ := rep_int.mp r1
    exact call_int1 pins s σ H _ us Q I r (.inl ⟨_, rfl, q _ _ _ _ (.int hs)⟩)
/-! ### isinstance -/
def tyName : Ty → String
  | .int => "int" | .bool => "bool" | .list => "list" | .tuple => "tuple" | .str => "str"
def rIsT (S : Sig) (t : Ty) : List V → Hp → VK → Prop := fun xs H Q => ∃ x F d P b, xs = [x, .ty (tyName t)] ∧ Same F H ∧ Rep S F H d x P ∧ isTy t d = some b ∧ Q (.bl b) H
theorem isi_ok (t : Ty) : CallR X (.builtin "isinstance") (rIsT S t) := by
  intro pins s σ H xs us Q I r h
  obtain ⟨x, F, d, P, b, rfl, hs, r1, hb, q⟩ := h
  have go : ∀ n : String, TyOf X.K H x (.type n) → kitB n (tyName t) = some b → wpAny (model X.prog X.w) X.A (call (.builtin "isinstance") us) (EP X pins σ Q) X.xe s := fun n ty e =>
    call_isi pins s σ H _ us Q I r ⟨x, _, .type n, .type (tyName t), b, rfl, .ty _, .base ty, kit_ty e, q⟩
  cases d <;> simp only [isTy, Option.some.injEq, reduceCtorEq] at hb
  · obtain ⟨rfl, _⟩ := rep_non.mp r1
    subst hb
    exact go "NoneType" .non (by cases t <;> decide +kernel)
  · obtain ⟨rfl, _⟩ := rep_bl.mp r1
    subst hb
    exact go "bool" (.bl _) (by cases t <;> decide +kernel)
  · obtain ⟨rfl, _⟩ := rep_int.mp r1
    subst hb
    exact go "int" (.int _) (by cases t <;> decide +kernel)
  · obtain ⟨rfl, _⟩ := rep_str.mp r1
    subst hb
    exact go "str" (.str _) (by cases t <;> decide +kernel)
  · obtain ⟨_, a, vs, rfl, ea, h⟩ := rep_tup.mp r1
    subst hb
    exact go "tuple" (.tup (hs _ _ ea)) (by cases t <;> decide +kernel)
  · obtain ⟨a, vs, P', rfl, ea, h⟩ := r1.lst_at hs
    subst hb
    exact go "list" (.lst ea) (by cases t <;> decide +kernel)
end
end Ab
namespace Ab
open PySem L2
variable {S : Sig} {Z : L2.St → Nat → Hp → Prop} {F F' H H' : Hp} {P : Fp} {σ : L2.St} {a a' : SA}

theorem Ext.eqP {F F' H H' : Hp} {P P1 P2 : Fp} (a : Ext F F' H H' P P1) (h : P1 = P2) : Ext F F' H H' P P2 := h ▸ a
theorem uni_left_comm (P Q R : Fp) : Uni P (Uni Q R) = Uni Q (Uni P R) := by rw [← uni_assoc, ← uni_assoc, uni_comm P Q]
/-- set aside, shared from now on -/
theorem shares {R Pa : Fp} (sr : SR S F H a σ Pa) (di : Dis R Pa) (fr : ∀ x, R x → F x = none) :
    SR S (take F H R) H a σ Pa ∧ Same F (take F H R) ∧ Ext F (take F H R) H H (Uni R Pa) Pa := by
  have sF := take_same (H := H) fr
  refine ⟨⟨sr.rep.keep sF fun x _ => rfl, fun x hx => ?_, take_sub sr.sub⟩, sF, ⟨sF, fun x o h _ => h, fun x hx => .inl (.inr hx), fun x o h => ?_⟩⟩
  · rw [take_out fun z => di x z hx]; exact sr.fr x hx
  · by_cases hR : R x
    · exact .inr (.inl (.inl hR))
    · rw [take_out hR] at h; exact .inl ⟨o, h⟩
theorem SR.keepF {Pa : Fp} {F' : Hp} (sr : SR S F H a σ Pa) (hF : Same F F') (hn : ∀ x o, F' x = some o → (∃ o, F x = some o) ∨ H x = none) (hs : Same F' H') (hH : Same H H') : SR S F' H' a σ Pa := by
  have held := sr.rep.held
  refine ⟨sr.rep.keep hF fun x hx => ?_, fun x hx => ?_, hs⟩
  · obtain ⟨o, q⟩ := held x hx
    rw [q, hH x o q]
  · cases q : F' x with
    | none => rfl
    | some o =>
      rcases hn x o q with ⟨o', z⟩ | z
      · rw [sr.fr x hx] at z; cases z
      · obtain ⟨o', q'⟩ := held x hx
        rw [z] at q'; cases q'
theorem New.ext {d : D} {v : V} {Pd Pa : Fp} (n : New S F H d v F' H' Pd) : Ext F F' H H' Pa (Uni Pd Pa) :=
  ⟨n.sF, fun x o h _ => n.sH x o h, fun x h => h.elim (fun z => .inr (n.fresh x z)) .inl, fun x o h => (n.frz x o h).elim .inl fun z => .inr (.inr (.inl z))⟩
/-- a new value, the slots as they are -/
theorem New.ok {F1 H1 : Hp} {d : D} {v : V} {Pd Pa : Fp} {kp : Bool} (sr : SR S F1 H1 a σ Pa) (e : Ext F F1 H H1 P Pa) (k : kp = true → Same H H1) (n : New S F1 H1 d v F' H' Pd) : Ok S F H P σ ⟨true, kp, none⟩ d a v F' H' Pd Pa where
  rep := n.rep
  sr := sr.keepF n.sF n.frz n.sub n.sH
  ext := (e.trans n.ext).less fun x h => .inr h
  ext2 := fun _ => e.trans n.ext
  dis := fun _ x h1 h2 => by
    obtain ⟨o, q⟩ := sr.rep.held x h2
    rw [n.fresh x h1] at q; cases q
  fr := fun _ => n.fr
  same := fun h => (k h).trans n.sH
  slot := fun i h => nomatch h
/-- a value that needs nothing of the heap -/
theorem Ok.flat {F1 H1 : Hp} {d : D} {v : V} {Pa : Fp} {t : At} (sr : SR S F1 H1 a σ Pa) (e : Ext F F1 H H1 P Pa) (k : t.kp = true → Same H H1) (hs : t.sl = none) (r : Rep S F1 H1 d v Emp) : Ok S F H P σ t d a v F1 H1 Emp Pa where
  rep := r
  sr := sr
  ext := e
  ext2 := fun _ => by rw [emp_uni]; exact e
  dis := fun _ => emp_dis
  fr := fun _ x h => h.elim
  same := k
  slot := fun i h => by rw [hs] at h; cases h
abbrev KV (S : Sig) (F H : Hp) (P : Fp) (σ : L2.St) (t : At) (Q : VK) : D → SA → Prop := fun d a' => ∀ v F' H' Pd Pa, Ok S F H P σ t d a' v F' H' Pd Pa → Q v H'
/-- two operands in a row -/
theorem tA_two {fa fb : SA → Er D} {k : D → D → SA → Er D} {t ta tb : At} {H : Hp} {Q : VK} {R : V → V → Hp → Prop}
    (h : tA S Z t (fun s => (fa s).bind fun d1 s1 => (fb s1).bind fun d2 s2 => k d1 d2 s2) σ H Q)
    (c : ∀ F P a d1 a1 v1 F1 H1 P1 Pa1 d2 a2 v2 F2 H2 P2 Pa2, SR S F H a σ P → Ok S F H P σ ta d1 a1 v1 F1 H1 P1 Pa1 → Ok S F1 H1 Pa1 σ tb d2 a2 v2 F2 H2 P2 Pa2 → Out S (Z σ) F H P σ (KV S F H P σ t Q) (k d1 d2 a2) → R v1 v2 H2) :
    tA S Z ta fa σ H (fun x H1 => tA S Z tb fb σ H1 fun y H2 => R x y H2) := by
  obtain ⟨F, P, a, sr, o⟩ := h
  refine ⟨F, P, a, sr, o.bind.imp fun d1 a1 e1 o1 v1 F1 H1 P1 Pa1 ok1 => ⟨F1, Pa1, a1, ok1.sr, (o1.bind.at ok1.ext).imp fun d2 a2 e2 o2 v2 F2 H2 P2 Pa2 ok2 => ?_⟩⟩
  exact c F P a d1 a1 v1 F1 H1 P1 Pa1 d2 a2 v2 F2 H2 P2 Pa2 sr ok1 ok2 o2
theorem tA_one {fa : SA → Er D} {k : D → SA → Er D} {t ta : At} {H : Hp} {Q : VK} {R : V → Hp → Prop}
    (h : tA S Z t (fun s => (fa s).bind fun d1 s1 => k d1 s1) σ H Q)
    (c : ∀ F P a d1 a1 v1 F1 H1 P1 Pa1, SR S F H a σ P → Ok S F H P σ ta d1 a1 v1 F1 H1 P1 Pa1 → Out S (Z σ) F H P σ (KV S F H P σ t Q) (k d1 a1) → R v1 H1) :
    tA S Z ta fa σ H (fun x H1 => R x H1) := by
  obtain ⟨F, P, a, sr, o⟩ := h
  exact ⟨F, P, a, sr, o.bind.imp fun d1 a1 e1 o1 v1 F1 H1 P1 Pa1 ok1 => c F P a d1 a1 v1 F1 H1 P1 Pa1 sr ok1 o1⟩
theorem atE_tmp {e : ME} {v : Bool} (h : (rootOf e).isNone = true) : (atE v e).tmp = true := by simp [atE, h]
/-- both operands as they may be shared -/
theorem both {ea eb : ME} {d1 d2 d1' : D} {a1 a2 : SA} {v1 v2 : V} {F1 H1 F2 H2 : Hp} {P1 Pa1 P2 Pa2 : Fp}
    (o1 : Ok S F H P σ (atE true ea) d1 a1 v1 F1 H1 P1 Pa1) (o2 : Ok S F1 H1 Pa1 σ (atE true eb) d2 a2 v2 F2 H2 P2 Pa2) (h : stay ea d1 (pureE eb) a2 = some d1') :
    ∃ F3 Q1 Q2, Rep S F3 H2 (tmpz ea d1') v1 Q1 ∧ Rep S F3 H2 (tmpz eb d2) v2 Q2 ∧ SR S F3 H2 a2 σ Pa2 ∧ Ext F F3 H H2 P Pa2 := by
  obtain ⟨P1', r1, q1⟩ := stayed o1 o2 h rfl rfl
  by_cases ha : (rootOf ea).isNone = true
  · obtain ⟨rfl, rfl, di, fr, e1, q2⟩ := q1 ha
    by_cases hb : (rootOf eb).isNone = true
    · have tb := atE_tmp (v := true) hb
      obtain ⟨d12, e12⟩ := q2 tb
      have hfr : ∀ x, Uni P1' P2 x → F2 x = none := fun x h => h.elim (fr x) (o2.fr tb x)
      obtain ⟨s1, s2, s3⟩ := shares (R := Uni P1' P2) o2.sr (di.uni (o2.dis tb)) hfr
      refine ⟨_, Emp, Emp, ?_, ?_, s1, (e12.eqP ?_).trans s3⟩
      · unfold tmpz; rw [if_pos ha]; exact r1.frz s2 _ fun x hx => take_in (.inl hx)
      · unfold tmpz; rw [if_pos hb]; exact o2.rep.frz s2 _ fun x hx => take_in (.inr hx)
      · rw [uni_left_comm, uni_assoc]
    · obtain ⟨s1, s2, s3⟩ := shares (R := P1') o2.sr di fr
      refine ⟨_, Emp, P2, ?_, ?_, s1, e1.trans s3⟩
      · unfold tmpz; rw [if_pos ha]; exact r1.frz s2 _ fun x hx => take_in hx
      · unfold tmpz; rw [if_neg hb]; exact o2.rep.keep s2 _ fun x hx => rfl
  · by_cases hb : (rootOf eb).isNone = true
    · have tb := atE_tmp (v := true) hb
      obtain ⟨s1, s2, s3⟩ := shares (R := P2) o2.sr (o2.dis tb) (o2.fr tb)
      refine ⟨_, P1', Emp, ?_, ?_, s1, (o1.ext.trans (o2.ext2 tb)).trans s3⟩
      · unfold tmpz; rw [if_neg ha]; exact r1.keep s2 _ fun x hx => rfl
      · unfold tmpz; rw [if_pos hb]; exact o2.rep.frz s2 _ fun x hx => take_in hx
    · refine ⟨F2, P1', P2, ?_, ?_, o2.sr, o1.ext.trans o2.ext⟩
      · unfold tmpz; rw [if_neg ha]; exact r1
      · unfold tmpz; rw [if_neg hb]; exact o2.rep
/-- one operand as it may be shared -/
theorem single {ea : ME} {d1 : D} {a1 : SA} {v1 : V} {F1 H1 : Hp} {P1 Pa1 : Fp} (o1 : Ok S F H P σ (atE true ea) d1 a1 v1 F1 H1 P1 Pa1) :
    ∃ F3 Q1, Rep S F3 H1 (tmpz ea d1) v1 Q1 ∧ SR S F3 H1 a1 σ Pa1 ∧ Ext F F3 H H1 P Pa1 := by
  by_cases ha : (rootOf ea).isNone = true
  · have ta := atE_tmp (v := true) ha
    obtain ⟨s1, s2, s3⟩ := shares (R := P1) o1.sr (o1.dis ta) (o1.fr ta)
    refine ⟨_, Emp, ?_, s1, (o1.ext2 ta).trans s3⟩
    unfold tmpz; rw [if_pos ha]; exact o1.rep.frz s2 _ fun x hx => take_in hx
  · refine ⟨F1, P1, ?_, o1.sr, o1.ext⟩
    unfold tmpz; rw [if_neg ha]; exact o1.rep
theorem pure2 {ea eb : ME} {d1 d2 : D} {a1 a2 : SA} {v1 v2 : V} {F1 H1 F2 H2 : Hp} {P1 Pa1 P2 Pa2 : Fp}
    (o1 : Ok S F H P σ (atE true ea) d1 a1 v1 F1 H1 P1 Pa1) (o2 : Ok S F1 H1 Pa1 σ (atE true eb) d2 a2 v2 F2 H2 P2 Pa2) : (pureE ea && pureE eb) = true → Same H H2 := fun h => by
  simp only [Bool.and_eq_true] at h
  exact (o1.same h.1).trans (o2.same h.2)

/-! ### the cases of an expression -/
section
variable {X : Cx} {G : Env0A} {W : Nat}
abbrev tE (S : Sig) (Z : L2.St → Nat → Hp → Prop) (G : Env0A) (W : Nat) (v : Bool) (e : ME) : TE := tA S Z (atE v e) (ev G W v e)
theorem slot_rd {i : Nat} {v : Bool} {H : Hp} {Q : VK} (h : tE S Z G W v (.slot i) σ H Q) : tVar i σ H Q := by
  obtain ⟨F, P, a, sr, o⟩ := h
  simp only [ev] at o
  cases e : rd a i with
  | none => rw [e] at o; exact o.elim
  | some d =>
    rw [e] at o
    simp only [own] at o
    split at o
    · rename_i hs
      obtain ⟨v0, P1, P2, e1, e2, di, r, _, _⟩ := sr.rep.focus (rd_some e)
      refine ⟨v0, e1, o v0 F H P1 P ⟨r, sr, .refl, fun ht => ?_, fun ht => ?_, fun ht x hx => ?_, fun _ _ _ z => z, fun j hj => ?_⟩⟩
      · have : P1 = Emp := by
          cases v with
          | true => simp [atE, rootOf] at ht
          | false => exact r.still d (by simpa using hs)
        rw [this, emp_uni]; exact .refl
      · have : P1 = Emp := by
          cases v with
          | true => simp [atE, rootOf] at ht
          | false => exact r.still d (by simpa using hs)
        rw [this]; exact emp_dis
      · exact sr.fr x (by rw [e2]; exact .inl hx)
      · have : i = j := by simpa [atE, slotOf] using hj
        rw [← this]; exact e1
    · simp only [e] at o
      obtain ⟨v0, F', P', e1, r, sr', ex⟩ := sr.freeze e
      refine ⟨v0, e1, o v0 F' H Emp P' ⟨r, sr', ex, fun _ => by rw [emp_uni]; exact ex, fun _ => emp_dis, fun _ x hx => hx.elim, fun _ _ _ z => z, fun j hj => ?_⟩⟩
      have : i = j := by simpa [atE, slotOf] using hj
      rw [← this]; exact e1
theorem c_slot {i : Nat} {x : Str} {pos : Pos} {v : Bool} (hN : X.N[i]? = some x) (hv : Vis X.env.scope x) (hd : (x == ("__debug__" : Str)) = false) (hcd : (x == ("__classdict__" : Str)) = false) : PE X (.Name x pos) (tE S Z G W v (.slot i)) :=
  (pe_var hN hv hd hcd).weak fun σ H Q h => slot_rd h
theorem c_flat {e : Expr} {me : ME} {d : D} {w : V} {v : Bool} (h : PE X e (tC w)) (hd : ∀ s, ev G W v me s = .ok d s) (hr : ∀ F H, Rep S F H d w Emp) (hs : slotOf me = none) : PE X e (tE S Z G W v me) := by
  refine h.weak fun σ H Q h => ?_
  obtain ⟨F, P, a, sr, o⟩ := h
  rw [hd] at o
  exact o w F H Emp P (.flat sr .refl (fun _ _ _ z => z) hs (hr F H))
theorem c_bin {o : Op2} {ea eb : ME} {x y : Expr} {pos : Pos} {v : Bool} (ha : PE X x (tE S Z G W true ea)) (hb : PE X y (tE S Z G W true eb)) : PE X (.BinOp x (opO o) y pos) (tE S Z G W v (.bin o ea eb)) := by
  refine (pe_op (bin_ok (S := S) o) ha hb).weak fun σ H Q h => ?_
  refine tA_two (ta := atE true ea) (tb := atE true eb) h fun F P a d1 a1 v1 F1 H1 P1 Pa1 d2 a2 v2 F2 H2 P2 Pa2 sr o1 o2 out => ?_
  obtain ⟨d, e, q⟩ := out.of
  simp only [Option.bind_eq_some_iff] at e
  obtain ⟨d1', es, e⟩ := e
  obtain ⟨F3, Q1, Q2, r1, r2, sr3, ex⟩ := both o1 o2 es
  refine ⟨F3, _, _, d, Q1, Q2, sr3.sub, r1, r2, e, fun v' F' H' Pd n => q v' F' H' Pd Pa2 ?_⟩
  have := n.ok (F := F) (P := P) (σ := σ) sr3 ex (pure2 o1 o2)
  simpa [atE, rootOf, slotOf, pureE] using this
theorem c_cmpO {c : Cmp} {ea eb : ME} {x y : Expr} {pos : Pos} {v : Bool} (hc : OpR X (compareOp (opC c)) (rGB S (cmp c))) (hm : behindInMarks (opC c) y = false) (ha : PE X x (tE S Z G W true ea)) (hb : PE X y (tE S Z G W true eb)) : PE X (.Compare x [opC c] [y] pos) (tE S Z G W v (.cmp c ea eb)) := by
  refine (pe_cmpR hc ha hb hm).weak fun σ H Q h => ?_
  refine tA_two (ta := atE true ea) (tb := atE true eb) h fun F P a d1 a1 v1 F1 H1 P1 Pa1 d2 a2 v2 F2 H2 P2 Pa2 sr o1 o2 out => ?_
  obtain ⟨d, e, q⟩ := out.of
  simp only [Option.bind_eq_some_iff, Option.map_eq_some_iff] at e
  obtain ⟨d1', es, b, e, rfl⟩ := e
  obtain ⟨P1', r1, _⟩ := stayed o1 o2 es rfl rfl
  refine ⟨F2, _, _, b, P1', P2, o2.sr.sub, r1, o2.rep, e, q _ F2 H2 Emp Pa2 (.flat o2.sr (o1.ext.trans o2.ext) ?_ rfl (rep_bl.mpr ⟨rfl, rfl⟩))⟩
  exact fun h => pure2 o1 o2 (by simpa [atE, pureE] using h)
theorem non_iff {d : D} {v : V} {P : Fp} (h : Rep S F H d v P) : decide (v = .non) = isNon d := by
  cases d <;> simp only [Rep] at h
  · rw [h.1]; rfl
  · rw [h.1]; rfl
  · rw [h.1]; rfl
  · rw [h.1]; rfl
  · obtain ⟨_, a, vs, e, _⟩ := h; rw [e]; rfl
  · obtain ⟨a, vs, e, _⟩ := h; rw [e]; rfl
  · obtain ⟨a, cl, dx, vs, e, _⟩ := h; rw [e]; rfl
  · obtain ⟨_, a, e, _⟩ := h; rw [e]; rfl
  · obtain ⟨a, vs, bs, e, _⟩ := h; rw [e]; rfl
  · obtain ⟨_, f, nf, ws, e, _⟩ := h; rw [e]; rfl
  · obtain ⟨_, f, nf, e, _⟩ := h; rw [e]; rfl
  · rw [h.1]; rfl
theorem c_isn {ea : ME} {x : Expr} {pos pos' : Pos} {j : Nat} {v n : Bool} (ha : PE X x (tE S Z G W true ea)) : PE X (.Compare x [if n then .IsNot else .Is] [.Constant .none j pos'] pos) (tE S Z G W v (.isn n ea)) := by
  have key : ∀ σ H Q, tE S Z G W v (.isn n ea) σ H Q → tE S Z G W true ea σ H fun x H1 => Q (.bl (if n then !decide (x = .non) else decide (x = .non))) H1 := fun σ H Q h => by
    refine tA_one (ta := atE true ea) h fun F P a d1 a1 v1 F1 H1 P1 Pa1 sr o1 out => ?_
    have hb : (if n then !decide (v1 = .non) else decide (v1 = .non)) = isn n d1 := by unfold isn; rw [non_iff o1.rep]
    rw [hb]
    exact out _ F1 H1 Emp Pa1 (.flat o1.sr o1.ext o1.same rfl (rep_bl.mpr ⟨rfl, rfl⟩))
  cases n with
  | true => exact (pe_cmp (pc_notN ha) rfl).weak fun σ H Q h => key σ H Q h
  | false => exact (pe_cmp (pc_isN ha) rfl).weak fun σ H Q h => key σ H Q h
end
end Ab
namespace Ab
open PySem L2
variable {S : Sig} {Z : L2.St → Nat → Hp → Prop} {F F' H H' : Hp} {P : Fp} {σ : L2.St} {a a' : SA}

/-! ### argument lists -/
structure OkL (S : Sig) (F H : Hp) (P : Fp) (σ : L2.St) (kp : Bool) (ds : List D) (a' : SA) (vs : List V) (F' H' : Hp) (Pd Pa : Fp) : Prop where
  rep : Reps S F' H' ds vs Pd
  sr : SR S F' H' a' σ Pa
  ext : Ext F F' H H' P Pa
  ext2 : Ext F F' H H' P (Uni Pd Pa)
  dis : Dis Pd Pa
  fr : ∀ x, Pd x → F' x = none
  same : kp = true → Same H H'
def tAL (S : Sig) (Z : L2.St → Nat → Hp → Prop) (kp : Bool) (f : SA → Er (List D)) : TA := fun σ H Q => ∃ F P a, SR S F H a σ P ∧
  Out S (Z σ) F H P σ (fun ds a' => ∀ vs F' H' Pd Pa, OkL S F H P σ kp ds a' vs F' H' Pd Pa → Q vs H') (f a)
theorem OkL.nil (sr : SR S F H a σ P) : OkL S F H P σ true [] a [] F H Emp P :=
  ⟨by simp only [Reps]; exact ⟨trivial, trivial⟩, sr, .refl, by rw [emp_uni]; exact .refl, emp_dis, fun x h => h.elim, fun _ _ _ z => z⟩
theorem OkL.cons {t : At} {d : D} {a1 a2 : SA} {v : V} {F1 H1 F2 H2 : Hp} {P1 Pa1 P2 Pa2 : Fp} {ds : List D} {vs : List V} {kp : Bool} (ht : t.tmp = true)
    (o1 : Ok S F H P σ t d a1 v F1 H1 P1 Pa1) (o2 : OkL S F1 H1 Pa1 σ kp ds a2 vs F2 H2 P2 Pa2) : OkL S F H P σ (t.kp && kp) (d :: ds) a2 (v :: vs) F2 H2 (Uni P1 P2) Pa2 := by
  have di := o1.dis ht
  have held := o1.rep.held d
  have r1 := o2.ext.aside o1.rep di
  have d2 := o2.ext2.dis di held
  refine ⟨?_, o2.sr, o1.ext.trans o2.ext, ?_, ?_, fun x h => h.elim (o2.ext.unf di held (o1.rep.notup d) (o1.fr ht) x) (o2.fr x), same_trans' o1.same o2.same⟩
  · simp only [Reps]
    exact ⟨v, vs, P1, P2, rfl, rfl, fun x h1 h2 => d2 x h1 (.inl h2), r1, o2.rep⟩
  · have z := o2.ext2.frame (R := P1)
    rw [uni_comm Pa1 P1] at z
    refine ((o1.ext2 ht).trans z).eqP ?_
    rw [uni_comm (Uni P2 Pa2), ← uni_assoc]
  · exact Dis.uni (fun x h1 h2 => d2 x h1 (.inr h2)) o2.dis
section
variable {X : Cx} {G : Env0A} {W : Nat}
abbrev tEs (S : Sig) (Z : L2.St → Nat → Hp → Prop) (G : Env0A) (W : Nat) (es : MEs) : TA := tAL S Z (pureEs es) (evs G W es)
theorem c_nil : PA X [] (tEs S Z G W .nil) := pa_nil.weak fun σ H Q h => by
  obtain ⟨F, P, a, sr, o⟩ := h
  exact o [] F H Emp P (.nil sr)
theorem c_cons {e : Expr} {es : List Expr} {me : ME} {mes : MEs} (he : PE X e (tE S Z G W false me)) (hs : PA X es (tEs S Z G W mes)) (hst : starEach (e :: es) X.env = (false, eval e X.env) :: starEach es X.env) : PA X (e :: es) (tEs S Z G W (.cons me mes)) := by
  refine (pa_cons he hs hst).weak fun σ H Q h => ?_
  obtain ⟨F, P, a, sr, o⟩ := h
  refine ⟨F, P, a, sr, o.bind.imp fun d a1 e1 o1 v1 F1 H1 P1 Pa1 ok1 => ⟨F1, Pa1, a1, ok1.sr, (o1.bind.at ok1.ext).imp fun ds a2 e2 o2 vs F2 H2 P2 Pa2 ok2 => ?_⟩⟩
  exact o2 _ F2 H2 _ Pa2 (OkL.cons rfl ok1 ok2)
theorem c_tup {es : List Expr} {mes : MEs} {k : Nat} {pos : Pos} {v : Bool} (hs : PA X es (tEs S Z G W mes)) : PE X (.Tuple es k pos) (tE S Z G W v (.tup mes)) := by
  refine (pe_tup hs).weak fun σ H Q h => ?_
  obtain ⟨F, P, a, sr, o⟩ := h
  refine ⟨F, P, a, sr, o.bind.imp fun ds a1 e1 o1 vs F1 H1 P1 Pa1 ok1 => ?_⟩
  split at o1
  · rename_i hl
    refine ⟨by rw [Reps.len ok1.rep]; exact hl, fun p hp => ?_⟩
    obtain ⟨s1, s2, s3⟩ := shares (R := P1) ok1.sr ok1.dis ok1.fr
    have r : Reps S (take F1 H1 P1) H1 (frzs ds) vs Emp := Reps.frz s2 ds ok1.rep fun x hx => take_in hx
    have n := New.tup s1.sub r hp
    exact o1 _ _ _ _ Pa1 (by simpa [atE, rootOf, slotOf, pureE] using n.ok (F := F) (P := P) s1 (ok1.ext2.trans s3) ok1.same)
  · exact o1.elim
theorem New.lstO {ds : List D} {vs : List V} {p : Addr} {Pd : Fp} (hs : Same F H) (h : Reps S F H ds vs Pd) (hp : H p = none) : Rep S F (upd H p (.lst vs)) (.lst true ds) (.ref p) (Uni (fun x => x = p) Pd) := by
  have nP : ¬ Pd p := fun z => by
    obtain ⟨o, q⟩ := Reps.held ds h p z
    rw [hp] at q; cases q
  simp only [Rep]
  refine ⟨p, vs, rfl, ?_⟩
  rw [if_pos trivial]
  refine ⟨upd_same, .inl rfl, Pd, nP, rfl, Reps.keep (fun _ _ z => z) ds h fun x z => upd_ne fun e => nP (e ▸ z)⟩
theorem c_lst {es : List Expr} {mes : MEs} {pos : Pos} {v : Bool} (hs : PA X es (tEs S Z G W mes)) : PE X (.List es pos) (tE S Z G W v (.lst mes)) := by
  refine (pe_lst hs).weak fun σ H Q h => ?_
  obtain ⟨F, P, a, sr, o⟩ := h
  refine ⟨F, P, a, sr, o.bind.imp fun ds a1 e1 o1 vs F1 H1 P1 Pa1 ok1 => ?_⟩
  split at o1
  · rename_i hl
    refine ⟨by rw [Reps.len ok1.rep]; exact hl, fun p hp => ?_⟩
    have up := same_up (o := .lst vs) hp
    have nP : ∀ Q : Fp, (∀ x, Q x → ∃ o, H1 x = some o) → ¬ Q p := fun Q hq z => by
      obtain ⟨o, q⟩ := hq p z
      rw [hp] at q; cases q
    have pa1 := nP Pa1 ok1.sr.rep.held
    have ex : ∀ Q, Ext F1 F1 H1 (upd H1 p (.lst vs)) Q (Uni (fun x => x = p) Q) := fun Q => ⟨fun _ _ z => z, fun x o h _ => up x o h, fun x h => h.elim (fun e => .inr (by rw [e]; exact hp)) .inl, fun x o h => .inl ⟨o, h⟩⟩
    refine o1 _ F1 _ _ Pa1 ⟨New.lstO ok1.sr.sub ok1.rep hp, ok1.sr.keepF (fun _ _ z => z) (fun x o h => .inl ⟨o, h⟩) (ok1.sr.sub.trans up) up, ?_, fun _ => ?_, fun _ => ?_, fun _ x h => ?_, fun h => ?_, fun i h => by simp [atE, slotOf] at h⟩
    · exact (ok1.ext.trans (ex Pa1)).less fun x h => .inr h
    · refine (ok1.ext2.trans (ex _)).eqP ?_
      rw [uni_assoc]
    · exact Dis.uni (fun x h1 h2 => pa1 (h1 ▸ h2)) ok1.dis
    · rcases h with h | h
      · rw [h]; exact ok1.sr.sub.free hp
      · exact ok1.fr x h
    · exact (ok1.same (by simpa [atE, pureE] using h)).trans up
  · exact o1.elim

/-! ### subscripts, slices, fields -/
theorem c_sub {ea ei : ME} {x i : Expr} {pos : Pos} {v : Bool} (hK : S.K = X.K) (ha : PE X x (tE S Z G W true ea)) (hi : PE X i (tE S Z G W true ei)) (hp : PlainIx i) : PE X (.Subscript x i pos) (tE S Z G W v (.sub ea ei)) := by
  refine (pe_ix (ix_ok hK) ha hi hp).weak fun σ H Q h => ?_
  refine tA_two (ta := atE true ea) (tb := atE true ei) h fun F P a d1 a1 v1 F1 H1 P1 Pa1 d2 a2 v2 F2 H2 P2 Pa2 sr o1 o2 out => ?_
  cases d2 <;> try exact out.elim
  rename_i k
  simp only at out
  split at out
  · rename_i d ed
    simp only [Option.bind_eq_some_iff] at ed
    obtain ⟨d1', es, ed⟩ := ed
    obtain ⟨P1', r1, q1⟩ := stayed o1 o2 es rfl rfl
    obtain ⟨rfl, _⟩ := rep_int.mp o2.rep
    refine ⟨F2, d1', d, P1', k, o2.sr.sub, r1, rfl, ed, fun w Pd r sb => ?_⟩
    unfold own at out
    split at out
    · rename_i hv
      refine out w F2 H2 Pd Pa2 ⟨r, o2.sr, o1.ext.trans o2.ext, fun ht => ?_, fun ht => ?_, fun ht x hx => ?_, fun h => pure2 o1 o2 (by simpa [atE, pureE] using h), fun j h => by simp [atE, slotOf] at h⟩
      all_goals
        by_cases hst : still d = true
        · have e0 := r.still d hst
          subst e0
          first
            | (rw [emp_uni]; exact o1.ext.trans o2.ext)
            | exact emp_dis
            | exact hx.elim
        · have hvt : v = true := by simpa [hst] using hv
          subst hvt
          have hr : (rootOf ea).isNone = true := by simpa [atE, rootOf] using ht
          obtain ⟨rfl, rfl, di, fr, e1, _⟩ := q1 hr
          first
            | exact e1.less fun x h => h.elim (fun z => .inl (sb x z)) .inr
            | exact fun x h1 h2 => di x (sb x h1) h2
            | exact fr x (sb x hx)
    · exact out.elim
  · exact out.elim
theorem _root_.L2.PO.weak {X : Cx} {e : Option Expr} {t t' : TO} (h : PO X e t) (w : ∀ σ H Q, t' σ H Q → t σ H Q) : PO X e t' :=
  ⟨fun pins s σ H Q I q => h.run pins s σ H Q I (w σ H Q q)⟩
end
end Ab
namespace Ab
open PySem L2
variable {S : Sig} {Z : L2.St → Nat → Hp → Prop} {F F' H H' : Hp} {P : Fp} {σ : L2.St} {a a' : SA}
section
variable {X : Cx} {G : Env0A} {W : Nat}
/-- what a class of the signature must be in the module -/
structure ClsOk (K : PySem.W.Frag) (att : Nat → Str) (S : Sig) : Prop where
  cls : ∀ c cl, S.cls c = some cl → Cls K cl.addr ∧ cl.fields = (CF c).map att ∧ cl.fields.Nodup ∧ cl.fields.length < 900 ∧ ∀ f ∈ cl.fields, NoAttr K cl.addr f
theorem lookup_zip {N : List Str} {vs : List V} {j : Nat} {f : Str} {v : V} (nd : N.Nodup) (h1 : N[j]? = some f) (h2 : vs[j]? = some v) : (N.zip vs).lookup f = some v := by
  induction N generalizing vs j with
  | nil => simp at h1
  | cons x N ih =>
    cases vs with
    | nil => simp at h2
    | cons w vs =>
      cases j with
      | zero => simp at h1 h2; subst h1 h2; simp
      | succ j =>
        have hx : f ≠ x := fun e => by
          subst e
          exact (List.nodup_cons.mp nd).1 (List.mem_of_getElem? (by simpa using h1))
        rw [List.zip_cons_cons, List.lookup_cons, show (f == x) = false from by simpa using hx]
        exact ih (List.nodup_cons.mp nd).2 (by simpa using h1) (by simpa using h2)
theorem fldIx_at {c k j : Nat} (h : fldIx c k = some j) : (CF c)[j]? = some k := by
  unfold fldIx at h
  rw [List.findIdx?_eq_some_iff_getElem] at h
  obtain ⟨hl, he, _⟩ := h
  rw [List.getElem?_eq_getElem hl]
  simpa using he
/-- the item of a row of values -/
theorem Reps.item : ∀ {ds : List D} {vs : List V} {P : Fp} {j : Nat} {d : D}, Reps S F H ds vs P → ds[j]? = some d → ∃ v P1, vs[j]? = some v ∧ Rep S F H d v P1 ∧ ∀ x, P1 x → P x
  | [], vs, P, j, d, h, e => by simp at e
  | d0 :: ds, vs, P, j, d, h, e => by
    simp only [Reps] at h
    obtain ⟨v, r, P1, P2, rfl, eP, _, h1, h2⟩ := h
    cases j with
    | zero => simp at e; subst e; exact ⟨v, P1, rfl, h1, fun x hx => by rw [eP]; exact .inl hx⟩
    | succ j =>
      obtain ⟨v', P', e', r', s'⟩ := Reps.item (j := j) h2 (by simpa using e)
      exact ⟨v', P', by simpa using e', r', fun x hx => by rw [eP]; exact .inr (s' x hx)⟩
/-- an instance that is read -/
theorem Rep.ins_at {m : Bool} {c : Nat} {ds : List D} {v : V} {P : Fp} (hs : Same F H) (h : Rep S F H (.ins m c ds) v P) :
    ∃ p cl dx vs P', v = .ref p ∧ S.cls c = some cl ∧ ds.length ≤ cl.fields.length ∧ H p = some (.ins cl.addr dx (cl.fields.zip vs)) ∧ Reps S F H ds vs P' ∧ ∀ x, P' x → P x := by
  simp only [Rep] at h
  obtain ⟨p, cl, dx, vs, rfl, hc, hl, h⟩ := h
  split at h
  · obtain ⟨ea, _, P', _, eP, h⟩ := h
    exact ⟨p, cl, dx, vs, P', rfl, hc, hl, ea, h, fun x hx => by rw [eP]; exact .inr hx⟩
  · exact ⟨p, cl, dx, vs, Emp, rfl, hc, hl, hs _ _ h.2.1, h.2.2, fun x hx => hx.elim⟩
theorem c_fld {ea : ME} {k : Nat} {x : Expr} {att : Nat → Str} {pos : Pos} {v : Bool} (hC : ClsOk X.K att S) (hb : attributeBase x (att k) X.env (eval x X.env) = eval x X.env) (ha : PE X x (tE S Z G W true ea)) : PE X (.Attribute x (att k) pos) (tE S Z G W v (.fld ea k)) := by
  refine (pe_fld ha hb).weak fun σ H Q h => ?_
  refine tA_one (ta := atE true ea) h fun F P a d1 a1 v1 F1 H1 P1 Pa1 sr o1 out => ?_
  split at out
  · rename_i d ed
    unfold getFd at ed
    cases d1 <;> simp only [reduceCtorEq] at ed
    rename_i m c ds
    simp only [Option.bind_eq_some_iff] at ed
    obtain ⟨j, ej, ed⟩ := ed
    obtain ⟨p, cl, dx, vs, P', rfl, hc, hl, ep, hr, sb0⟩ := o1.rep.ins_at o1.sr.sub
    obtain ⟨k1, k2, k3, _, k4⟩ := hC.cls c cl hc
    obtain ⟨w, Pd, ew, r, sb⟩ := hr.item ed
    have ef : cl.fields[j]? = some (att k) := by rw [k2, List.getElem?_map, fldIx_at ej]; rfl
    refine ⟨p, cl.addr, dx, _, w, rfl, ep, k1, k4 _ (List.mem_of_getElem? ef), lookup_zip k3 ef ew, ?_⟩
    unfold own at out
    split at out
    · rename_i hv
      refine out w F1 H1 Pd Pa1 ⟨r, o1.sr, o1.ext, fun ht => ?_, fun ht => ?_, fun ht x hx => ?_, fun h => o1.same (by simpa [atE, pureE] using h), fun j h => by simp [atE, slotOf] at h⟩
      all_goals
        by_cases hst : still d = true
        · have e0 := r.still d hst
          subst e0
          first
            | (rw [emp_uni]; exact o1.ext)
            | exact emp_dis
            | exact hx.elim
        · have hvt : v = true := by simpa [hst] using hv
          subst hvt
          have ht1 : (atE true ea).tmp = true := by simpa [atE, rootOf] using ht
          first
            | exact (o1.ext2 ht1).less fun x h => h.elim (fun z => .inl (sb0 x (sb x z))) .inr
            | exact fun x h1 h2 => o1.dis ht1 x (sb0 x (sb x h1)) h2
            | exact o1.fr ht1 x (sb0 x (sb x hx))
    · exact out.elim
  · exact out.elim
/-! ### built-in calls -/
theorem c_callB1 {f : Bi1} {ea : ME} {x : Expr} {nm : Str} {id : String} {p pos : Pos} {v : Bool} (hc : CallR X (.builtin id) (rC1 S (bi1 f))) (hg : Gl X nm) (hm : X.mg nm = none) (hv : bootBuiltins nm = some (.builtin id)) (hn : nm ≠ "__name__") (hdb : (nm == ("__debug__" : Str)) = false)
    (hst : starEach [x] X.env = (false, eval x X.env) :: starEach [] X.env) (ha : PE X x (tE S Z G W true ea)) : PE X (.Call (.Name nm p) [x] [] pos) (tE S Z G W v (.bi1 f ea)) := by
  refine (pe_callB hc hg hm hv (pa_cons ha pa_nil hst) hn hdb hst rfl).weak fun σ H Q h => ?_
  refine tA_one (ta := atE true ea) h fun F P a d1 a1 v1 F1 H1 P1 Pa1 sr o1 out => ?_
  obtain ⟨d, e, q⟩ := out.of
  obtain ⟨F3, Q1, r1, sr3, ex⟩ := single o1
  refine ⟨v1, F3, _, d, Q1, rfl, sr3.sub, r1, e, fun v' F' H' Pd n => q v' F' H' Pd Pa1 ?_⟩
  simpa [atE, rootOf, slotOf, pureE] using n.ok (F := F) (P := P) (σ := σ) sr3 ex o1.same
theorem c_callT1 {f : Bi1} {ea : ME} {x : Expr} {nm : Str} {T : String} {p pos : Pos} {v : Bool} (hc : CallR X (.type T) (rC1 S (bi1 f))) (hg : Gl X nm) (hm : X.mg nm = none) (hv : bootBuiltins nm = some (.type T)) (hn : nm ≠ "__name__") (hdb : (nm == ("__debug__" : Str)) = false)
    (hst : starEach [x] X.env = (false, eval x X.env) :: starEach [] X.env) (ha : PE X x (tE S Z G W true ea)) : PE X (.Call (.Name nm p) [x] [] pos) (tE S Z G W v (.bi1 f ea)) := by
  refine (pe_callTy hc hg hm hv (pa_cons ha pa_nil hst) hn hdb hst rfl).weak fun σ H Q h => ?_
  refine tA_one (ta := atE true ea) h fun F P a d1 a1 v1 F1 H1 P1 Pa1 sr o1 out => ?_
  obtain ⟨d, e, q⟩ := out.of
  obtain ⟨F3, Q1, r1, sr3, ex⟩ := single o1
  refine ⟨v1, F3, _, d, Q1, rfl, sr3.sub, r1, e, fun v' F' H' Pd n => q v' F' H' Pd Pa1 ?_⟩
  simpa [atE, rootOf, slotOf, pureE] using n.ok (F := F) (P := P) (σ := σ) sr3 ex o1.same
theorem c_isi {t : Ty} {ea : ME} {x y : Expr} {p pos : Pos} {v : Bool} (hg : Gl X "isinstance") (hm : X.mg "isinstance" = none) (hy : PE X y (tC (.ty (tyName t))))
    (hst : starEach [x, y] X.env = (false, eval x X.env) :: starEach [y] X.env) (hst2 : starEach [y] X.env = (false, eval y X.env) :: starEach [] X.env) (ha : PE X x (tE S Z G W true ea)) : PE X (.Call (.Name "isinstance" p) [x, y] [] pos) (tE S Z G W v (.isi ea t)) := by
  refine (pe_callB (isi_ok (S := S) t) hg hm (by decide +kernel) (pa_cons ha (pa_cons hy pa_nil hst2) hst) (by decide) (by decide) hst (by rw [hst2]; rfl)).weak fun σ H Q h => ?_
  refine tA_one (ta := atE true ea) h fun F P a d1 a1 v1 F1 H1 P1 Pa1 sr o1 out => ?_
  obtain ⟨d, e, q⟩ := out.of
  simp only [Option.map_eq_some_iff] at e
  obtain ⟨b, e, rfl⟩ := e
  exact ⟨v1, F1, _, P1, b, rfl, o1.sr.sub, o1.rep, e, q _ F1 H1 Emp Pa1 (.flat o1.sr o1.ext (fun h => o1.same (by simpa [atE, pureE] using h)) rfl (rep_bl.mpr ⟨rfl, rfl⟩))⟩
end
end Ab
namespace Ab
open PySem L2
variable {S : Sig} {Z : L2.St → Nat → Hp → Prop} {F F' H H' : Hp} {P : Fp} {σ : L2.St} {a a' : SA}
section
variable {X : Cx} {G : Env0A} {W : Nat}
abbrev tT (S : Sig) (Z : L2.St → Nat → Hp → Prop) (G : Env0A) (W : Nat) (t : MT) : TT := tAT S Z (pureT t) (evT G W t)
theorem c_and2 {ea eb : ME} {x y : Expr} {r : List Expr} {pos : Pos} {v : Bool} (ha : PE X x (tE S Z G W true ea)) (hb : PE X (.BoolOp .And (y :: r) pos) (tE S Z G W true eb)) : PE X (.BoolOp .And (x :: y :: r) pos) (tE S Z G W v (.and2 ea eb)) := by
  refine (pe_and ha hb).weak fun σ H Q h => ?_
  obtain ⟨F, P, a, sr, o⟩ := h
  refine ⟨F, P, a, sr, o.bind.imp fun d1 a1 e1 o1 v1 F1 H1 P1 Pa1 ok1 => ?_⟩
  cases d1 <;> try exact o1.elim
  rename_i b
  obtain ⟨rfl, _⟩ := rep_bl.mp ok1.rep
  refine ⟨b, rfl, ?_⟩
  cases b with
  | true =>
    rw [if_pos rfl]
    refine ⟨F1, Pa1, a1, ok1.sr, (o1.bind.at ok1.ext).imp fun d2 a2 e2 o2 v2 F2 H2 P2 Pa2 ok2 => ?_⟩
    cases d2 <;> try exact o2.elim
    rename_i c
    obtain ⟨rfl, rfl⟩ := rep_bl.mp ok2.rep
    exact o2 _ F2 H2 Emp Pa2 (.flat ok2.sr (ok1.ext.trans ok2.ext) (fun h => pure2 ok1 ok2 (by simpa [atE, pureE] using h)) rfl (rep_bl.mpr ⟨rfl, rfl⟩))
  | false =>
    rw [if_neg (by decide)]
    exact o1 _ F1 H1 Emp Pa1 (.flat ok1.sr ok1.ext (fun h => ok1.same (by simp [atE, pureE] at h ⊢; exact h.1)) rfl (rep_bl.mpr ⟨rfl, rfl⟩))
/-- an expression's outcome is told for another mark, where the value stands in no slot -/
theorem Ok.re {t : At} {d : D} {v : V} {Pd Pa : Fp} {e : ME} {w : Bool} {kp : Bool} {F' H' : Hp} (o : Ok S F H P σ (atE false e) d a' v F' H' Pd Pa) (hk : kp = true → Same H H') : Ok S F H P σ ⟨w, kp, none⟩ d a' v F' H' Pd Pa :=
  ⟨o.rep, o.sr, o.ext, fun _ => o.ext2 rfl, fun _ => o.dis rfl, fun _ => o.fr rfl, hk, fun i h => nomatch h⟩
theorem Ok.later {t : At} {d : D} {v : V} {Pd Pa P1 : Fp} {F1 H1 F' H' : Hp} {kp : Bool} (ex : Ext F F1 H H1 P P1) (k : kp = true → Same H H1) (o : Ok S F1 H1 P1 σ t d a' v F' H' Pd Pa) : Ok S F H P σ ⟨t.tmp, kp && t.kp, t.sl⟩ d a' v F' H' Pd Pa :=
  ⟨o.rep, o.sr, ex.trans o.ext, fun h => ex.trans (o.ext2 h), o.dis, o.fr, same_trans' k o.same, o.slot⟩
theorem c_chain {c e : Cmp} {ea eb ed : ME} {x y z : Expr} {pos : Pos} {v : Bool} (hc : OpR X (compareOp (opC c)) (rGB S (cmp c))) (he : OpR X (compareOp (opC e)) (rGB S (cmp e))) (hm : lastMarks [opC c, opC e] [y, z] = false)
    (ha : PE X x (tE S Z G W true ea)) (hb : PE X y (tE S Z G W true eb)) (hd : PE X z (tE S Z G W true ed)) : PE X (.Compare x [opC c, opC e] [y, z] pos) (tE S Z G W v (.chain c e ea eb ed)) := by
  refine (pe_chain hc he ha hb hd hm).weak fun σ H Q h => ?_
  obtain ⟨F, P, a, sr, o⟩ := h
  refine ⟨F, P, a, sr, o.bind.imp fun d1 a1 e1 o1 v1 F1 H1 P1 Pa1 ok1 => ⟨F1, Pa1, a1, ok1.sr, (o1.bind.at ok1.ext).imp fun d2 a2 e2 o2 v2 F2 H2 P2 Pa2 ok2 => ?_⟩⟩
  cases d1 <;> try exact o2.elim
  rename_i i
  cases d2 <;> try exact o2.elim
  rename_i j
  obtain ⟨rfl, rfl⟩ := rep_int.mp ok1.rep
  obtain ⟨rfl, rfl⟩ := rep_int.mp ok2.rep
  have r1 : Rep S F2 H2 (.int i) (.int i) Emp := rep_int.mpr ⟨rfl, rfl⟩
  have r2 : Rep S F2 H2 (.int j) (.int j) Emp := rep_int.mpr ⟨rfl, rfl⟩
  simp only at o2
  split at o2
  · rename_i ec
    refine ⟨F2, .int i, .int j, true, Emp, Emp, ok2.sr.sub, r1, r2, ec, true, rfl, ?_⟩
    rw [if_pos rfl]
    refine ⟨F2, Pa2, a2, ok2.sr, (o2.bind.at (ok1.ext.trans ok2.ext)).imp fun d3 a3 e3 o3 v3 F3 H3 P3 Pa3 ok3 => ?_⟩
    cases d3 <;> try exact o3.elim
    rename_i k
    obtain ⟨d, ed', q⟩ := o3.of
    simp only [Option.map_eq_some_iff] at ed'
    obtain ⟨b, ed', rfl⟩ := ed'
    refine ⟨F3, .int j, .int k, b, Emp, P3, ok3.sr.sub, rep_int.mpr ⟨rfl, rfl⟩, ok3.rep, ed', q _ F3 H3 Emp Pa3 (.flat ok3.sr (ok1.ext.trans (ok2.ext.trans ok3.ext)) (fun h => ?_) rfl (rep_bl.mpr ⟨rfl, rfl⟩))⟩
    simp only [atE, pureE, Bool.and_eq_true] at h
    exact (ok1.same h.1.1).trans ((ok2.same h.1.2).trans (ok3.same h.2))
  · rename_i ec
    refine ⟨F2, .int i, .int j, false, Emp, Emp, ok2.sr.sub, r1, r2, ec, false, rfl, ?_⟩
    rw [if_neg (by decide)]
    refine o2 _ F2 H2 Emp Pa2 (.flat ok2.sr (ok1.ext.trans ok2.ext) (fun h => ?_) rfl (rep_bl.mpr ⟨rfl, rfl⟩))
    simp only [atE, pureE, Bool.and_eq_true] at h
    exact (ok1.same h.1.1).trans (ok2.same h.1.2)
  · exact o2.elim

/-! ### tests -/
theorem t_val {ea : ME} {x : Expr} (ha : PE X x (tE S Z G W true ea)) (he : ∀ whole, isTrue x X.env whole = (do let v ← whole; standAt x.pos; holding [v] (truthy v))) : PT X x (tT S Z G W (.val ea)) := by
  refine (pt_val ha he).weak fun σ H Q h => ?_
  obtain ⟨F, P, a, sr, o⟩ := h
  refine ⟨F, P, a, sr, o.bind.imp fun d1 a1 e1 o1 v1 F1 H1 P1 Pa1 ok1 => ?_⟩
  cases d1 <;> try exact o1.elim
  obtain ⟨rfl, _⟩ := rep_bl.mp ok1.rep
  exact ⟨_, rfl, o1 F1 H1 Pa1 ok1.sr ok1.ext ok1.same⟩
theorem t_cmp {c : Cmp} {ea eb : ME} {x y : Expr} {pos : Pos} (hc : OpR X (compareOp (opC c)) (rGB S (cmp c))) (hm : behindInMarks (opC c) y = false) (ha : PE X x (tE S Z G W true ea)) (hb : PE X y (tE S Z G W true eb)) : PT X (.Compare x [opC c] [y] pos) (tT S Z G W (.cmp c ea eb)) := by
  refine (pt_cmpR hc ha hb hm).weak fun σ H Q h => ?_
  obtain ⟨F, P, a, sr, o⟩ := h
  refine ⟨F, P, a, sr, o.bind.imp fun d1 a1 e1 o1 v1 F1 H1 P1 Pa1 ok1 => ⟨F1, Pa1, a1, ok1.sr, (o1.bind.at ok1.ext).imp fun d2 a2 e2 o2 v2 F2 H2 P2 Pa2 ok2 => ?_⟩⟩
  obtain ⟨b, e, q⟩ := o2.of
  simp only [Option.bind_eq_some_iff] at e
  obtain ⟨d1', es, e⟩ := e
  obtain ⟨P1', r1, _⟩ := stayed ok1 ok2 es rfl rfl
  exact ⟨F2, _, _, b, P1', P2, ok2.sr.sub, r1, ok2.rep, e, b, rfl, q F2 H2 Pa2 ok2.sr (ok1.ext.trans ok2.ext) (fun h => pure2 ok1 ok2 (by simpa [pureT] using h))⟩
theorem t_not {t : MT} {x : Expr} {pos : Pos} (h : PT X x (tT S Z G W t)) : PT X (.UnaryOp .Not x pos) (tT S Z G W (.not t)) := by
  refine (pt_not h).weak fun σ H Q h => ?_
  obtain ⟨F, P, a, sr, o⟩ := h
  exact ⟨F, P, a, sr, o.bind.imp fun b a1 e1 o1 F1 H1 Pa1 sr1 ex1 sm1 => o1 F1 H1 Pa1 sr1 ex1 sm1⟩
theorem _root_.L2.PW.weak {X : Cx} {e : Expr} {t t' : TT} (h : PW X e t) (w : ∀ σ H Q, t' σ H Q → t σ H Q) : PW X e t' :=
  ⟨fun wh pins s σ H Q I q => h.run wh pins s σ H Q I (w σ H Q q)⟩
theorem t_and {t u : MT} {x y : Expr} {r : List Expr} {pos : Pos} (ha : PT X x (tT S Z G W t)) (hb : PW X (.BoolOp .And (y :: r) pos) (tT S Z G W u)) : PW X (.BoolOp .And (x :: y :: r) pos) (tT S Z G W (.and t u)) := by
  refine (pw_and ha hb).weak fun σ H Q h => ?_
  obtain ⟨F, P, a, sr, o⟩ := h
  refine ⟨F, P, a, sr, o.bind.imp fun b a1 e1 o1 F1 H1 Pa1 sr1 ex1 sm1 => ?_⟩
  cases b with
  | true =>
    rw [if_pos rfl] at o1 ⊢
    exact ⟨F1, Pa1, a1, sr1, (o1.at ex1).imp fun c a2 e2 o2 F2 H2 Pa2 sr2 ex2 sm2 => o2 F2 H2 Pa2 sr2 (ex1.trans ex2) (same_trans' sm1 sm2)⟩
  | false =>
    rw [if_neg (by decide)] at o1 ⊢
    exact o1 F1 H1 Pa1 sr1 ex1 fun h => sm1 (by simp [pureT] at h; exact h.1)
theorem t_or {t u : MT} {x y : Expr} {r : List Expr} {pos : Pos} (ha : PT X x (tT S Z G W t)) (hb : PW X (.BoolOp .Or (y :: r) pos) (tT S Z G W u)) : PW X (.BoolOp .Or (x :: y :: r) pos) (tT S Z G W (.or t u)) := by
  refine (pw_or ha hb).weak fun σ H Q h => ?_
  obtain ⟨F, P, a, sr, o⟩ := h
  refine ⟨F, P, a, sr, o.bind.imp fun b a1 e1 o1 F1 H1 Pa1 sr1 ex1 sm1 => ?_⟩
  cases b with
  | true =>
    rw [if_pos rfl] at o1 ⊢
    exact o1 F1 H1 Pa1 sr1 ex1 fun h => sm1 (by simp [pureT] at h; exact h.1)
  | false =>
    rw [if_neg (by decide)] at o1 ⊢
    exact ⟨F1, Pa1, a1, sr1, (o1.at ex1).imp fun c a2 e2 o2 F2 H2 Pa2 sr2 ex2 sm2 => o2 F2 H2 Pa2 sr2 (ex1.trans ex2) (same_trans' sm1 sm2)⟩
end
end Ab
namespace Ab
open PySem L2
variable {S : Sig} {Z : L2.St → Nat → Hp → Prop} {F F' H H' : Hp} {P : Fp} {σ : L2.St} {a a' : SA}

/-! ### handing on: several slots taken out, put back -/
def clr : List Nat → SA → SA
  | [], s => s
  | i :: is, s => clr is (s.set i none)
def mvD : List Nat → SA → Option (List D)
  | [], _ => some []
  | i :: is, s => (rd s i).bind fun d => (mvD is s).map (d :: ·)
def slotVs (σ : L2.St) : List Nat → List V → Prop
  | [], vs => vs = []
  | i :: is, vs => ∃ v r, vs = v :: r ∧ σ[i]? = some (some v) ∧ slotVs σ is r
theorem rd_set_ne {s : SA} {i j : Nat} {o : Option D} (h : i ≠ j) : rd (s.set i o) j = rd s j := by unfold rd; rw [List.getElem?_set_ne h]
theorem rd_clr : ∀ {is : List Nat} {s : SA} {j : Nat}, ¬ j ∈ is → rd (clr is s) j = rd s j
  | [], s, j, h => rfl
  | i :: is, s, j, h => by
    simp only [List.mem_cons, not_or] at h
    show rd (clr is (s.set i none)) j = rd s j
    rw [rd_clr h.2, rd_set_ne (fun e => h.1 e.symm)]
theorem nodupB_cons {i : Nat} {is : List Nat} (h : nodupB (i :: is) = true) : ¬ i ∈ is ∧ nodupB is = true := by
  simp only [nodupB, Bool.and_eq_true, Bool.not_eq_true', List.contains_eq_mem, decide_eq_false_iff_not] at h
  exact h
theorem mvD_set {is : List Nat} {s : SA} {i : Nat} {o : Option D} (h : ¬ i ∈ is) : mvD is (s.set i o) = mvD is s := by
  induction is with
  | nil => rfl
  | cons j js ih =>
    simp only [List.mem_cons, not_or] at h
    simp only [mvD]
    rw [rd_set_ne h.1, ih h.2]
/-- slots taken out -/
theorem RepS.out : ∀ {is : List Nat} {a : SA} {P : Fp} {ms : List D}, RepS S F H a σ P → nodupB is = true → mvD is a = some ms →
    ∃ vs Pm Pr, slotVs σ is vs ∧ Reps S F H ms vs Pm ∧ RepS S F H (clr is a) σ Pr ∧ P = Uni Pm Pr ∧ Dis Pm Pr
  | [], a, P, ms, h, nd, e => by
    simp only [mvD, Option.some.injEq] at e
    subst e
    exact ⟨[], Emp, P, rfl, by simp only [Reps]; exact ⟨trivial, trivial⟩, h, (emp_uni P).symm, emp_dis⟩
  | i :: is, a, P, ms, h, nd, e => by
    obtain ⟨n1, n2⟩ := nodupB_cons nd
    simp only [mvD, Option.bind_eq_some_iff, Option.map_eq_some_iff] at e
    obtain ⟨d, e1, ms', e2, rfl⟩ := e
    obtain ⟨v, P1, P2, ev, eP, di, r, h2, _⟩ := h.focus (rd_some e1)
    obtain ⟨vs, Pm, Pr, sv, rs, h3, e3, d3⟩ := RepS.out (is := is) h2 n2 (by rw [mvD_set n1]; exact e2)
    subst e3
    refine ⟨v :: vs, Uni P1 Pm, Pr, ⟨v, vs, rfl, ev, sv⟩, ?_, h3, by rw [eP, uni_assoc], Dis.uni (fun x h1 h2 => di x h1 (.inr h2)) d3⟩
    simp only [Reps]
    exact ⟨v, vs, P1, Pm, rfl, rfl, fun x h1 h2 => di x h1 (.inl h2), r, rs⟩
theorem clr_get {is : List Nat} {s : SA} {i : Nat} (h : s[i]? = some none) : (clr is s)[i]? = some none := by
  induction is generalizing s with
  | nil => exact h
  | cons j js ih =>
    refine ih ?_
    by_cases e : j = i
    · subst e
      have hl := (List.getElem?_eq_some_iff.mp h).1
      rw [List.getElem?_set_self hl]
    · rw [List.getElem?_set_ne e]; exact h
theorem clr_set {is : List Nat} {s : SA} {i : Nat} {o : Option D} (h : ¬ i ∈ is) : clr is (s.set i o) = (clr is s).set i o := by
  induction is generalizing s with
  | nil => rfl
  | cons j js ih =>
    simp only [List.mem_cons, not_or] at h
    show clr js ((s.set i o).set j none) = (clr js (s.set j none)).set i o
    rw [List.set_comm _ _ h.1, ih h.2]
/-- a slot told anew, where the machine's slot holds that value -/
theorem RepS.tell {a : SA} {P : Fp} {i : Nat} {d : D} {v : V} {Pd : Fp} (h : RepS S F H a σ P) (e : a[i]? = some none) (ev : σ[i]? = some (some v)) (r : Rep S F H d v Pd) (n : Dis Pd P) : RepS S F H (a.set i (some d)) σ (Uni Pd P) := by
  have := h.put (i := i) (List.getElem?_eq_some_iff.mp e).1 e r n
  have e2 : σ.set i (some v) = σ := by
    apply List.ext_getElem?
    intro j
    by_cases hj : i = j
    · subst hj
      rw [List.getElem?_set_self (List.getElem?_eq_some_iff.mp ev).1, ev]
    · rw [List.getElem?_set_ne hj]
  rwa [e2] at this
theorem RepS.back : ∀ {is : List Nat} {a a2 : SA} {P : Fp} {ms : List D} {vs : List V} {Pm : Fp}, RepS S F H (clr is a) σ P → nodupB is = true → (∀ i ∈ is, i < a.length) → slotVs σ is vs → Reps S F H ms vs Pm → Dis Pm P → setMs is ms a = some a2 →
    RepS S F H a2 σ (Uni Pm P)
  | [], a, a2, P, ms, vs, Pm, h, nd, hl, sv, r, di, e => by
    cases ms with
    | nil =>
      simp only [setMs, Option.some.injEq] at e
      subst e
      simp only [Reps] at r
      rw [r.2, emp_uni]
      exact h
    | cons m ms => simp [setMs] at e
  | i :: is, a, a2, P, ms, vs, Pm, h, nd, hl, sv, r, di, e => by
    obtain ⟨n1, n2⟩ := nodupB_cons nd
    cases ms with
    | nil => simp [setMs] at e
    | cons m ms =>
      simp only [setMs] at e
      obtain ⟨v, vr, rfl, ev, sv⟩ := sv
      simp only [Reps] at r
      obtain ⟨v', r', P1, P2, e1, eP, d12, h1, h2⟩ := r
      cases e1
      subst eP
      have h' : RepS S F H (clr is (a.set i none)) σ P := h
      have hi : i < a.length := hl i List.mem_cons_self
      have hn : (clr is (a.set i none))[i]? = some none := clr_get (List.getElem?_set_self hi)
      have t := h'.tell hn ev h1 fun x p q => di x (.inl p) q
      rw [← clr_set n1, List.set_set] at t
      have := RepS.back (is := is) t n2 (fun j hj => by rw [List.length_set]; exact hl j (List.mem_cons_of_mem _ hj)) sv h2 (Dis.uni' (fun x p q => d12 x q p) fun x p q => di x (.inr p) q) e
      rwa [← uni_assoc, uni_comm P2 P1] at this
/-! ### what is held is no tuple -/
def notTup : HO → Prop
  | .tup _ => False
  | _ => True
mutual
theorem Rep.nt : ∀ (d : D) {v : V} {P : Fp}, Rep S F H d v P → ∀ x, P x → ∃ o, H x = some o ∧ notTup o
  | .non, v, P, h, x, hx => by simp only [Rep] at h; rw [h.2] at hx; exact hx.elim
  | .bl b, v, P, h, x, hx => by simp only [Rep] at h; rw [h.2] at hx; exact hx.elim
  | .int i, v, P, h, x, hx => by simp only [Rep] at h; rw [h.2] at hx; exact hx.elim
  | .str s, v, P, h, x, hx => by simp only [Rep] at h; rw [h.2] at hx; exact hx.elim
  | .tup ds, v, P, h, x, hx => by simp only [Rep] at h; rw [h.1] at hx; exact hx.elim
  | .lst m ds, v, P, h, x, hx => by
    simp only [Rep] at h
    obtain ⟨a, vs, ev, h⟩ := h
    split at h
    · obtain ⟨ea, pa, P', np, eP, h⟩ := h
      rw [eP] at hx
      rcases hx with hx | hx
      · exact ⟨.lst vs, hx ▸ ea, trivial⟩
      · exact Reps.nt ds h x hx
    · rw [h.1] at hx; exact hx.elim
  | .ins m c ds, v, P, h, x, hx => by
    simp only [Rep] at h
    obtain ⟨a, cl, dx, vs, ev, hc, hl, h⟩ := h
    split at h
    · obtain ⟨ea, pa, P', np, eP, h⟩ := h
      rw [eP] at hx
      rcases hx with hx | hx
      · exact ⟨.ins cl.addr dx (cl.fields.zip vs), hx ▸ ea, trivial⟩
      · exact Reps.nt ds h x hx
    · rw [h.1] at hx; exact hx.elim
  | .dic m t ks ds, v, P, h, x, hx => by
    simp only [Rep] at h
    obtain ⟨a, vs, bs, ev, hk, hl, hb, h⟩ := h
    split at h
    · obtain ⟨ea, pa, P', np, eP, h⟩ := h
      rw [eP] at hx
      rcases hx with hx | hx
      · refine ⟨dO a t bs ks vs, hx ▸ ea, ?_⟩
        exact dO_cases (p := notTup) (fun _ => trivial) (fun _ => trivial) (fun _ => trivial)
      · exact Reps.nt ds h x hx
    · rw [h.1] at hx; exact hx.elim
  | .scr is, v, P, h, x, hx => by simp only [Rep] at h; rw [h.1] at hx; exact hx.elim
  | .clo n cap, v, P, h, x, hx => by simp only [Rep] at h; rw [h.1] at hx; exact hx.elim
  | .fn n js, v, P, h, x, hx => by simp only [Rep] at h; rw [h.1] at hx; exact hx.elim
  | .tbs, v, P, h, x, hx => by
    simp only [Rep] at h
    rw [h.2.1] at hx
    obtain ⟨p, hp, rfl⟩ := hx
    obtain ⟨ps, e, _⟩ := h.2.2 p hp
    exact ⟨.tbl ps, e, trivial⟩
theorem Reps.nt : ∀ (ds : List D) {vs : List V} {P : Fp}, Reps S F H ds vs P → ∀ x, P x → ∃ o, H x = some o ∧ notTup o
  | [], vs, P, h, x, hx => by simp only [Reps] at h; rw [h.2] at hx; exact hx.elim
  | d :: ds, vs, P, h, x, hx => by
    simp only [Reps] at h
    obtain ⟨v, r, P1, P2, e1, e2, di, h1, h2⟩ := h
    rw [e2] at hx
    exact hx.elim (Rep.nt d h1 x) (Reps.nt ds h2 x)
end
theorem RepS.nt : ∀ {a : SA} {σ : L2.St} {P : Fp}, RepS S F H a σ P → ∀ x, P x → ∃ o, H x = some o ∧ notTup o
  | [], σ, P, h, x, hx => by rw [h.2] at hx; exact hx.elim
  | none :: r, σ, P, h, x, hx => by obtain ⟨o, σ', e, h⟩ := h; exact RepS.nt h x hx
  | some d :: r, σ, P, h, x, hx => by
    obtain ⟨v, σ', P1, P2, e, e2, di, h1, h⟩ := h
    rw [e2] at hx
    exact hx.elim (h1.nt d x) (RepS.nt h x)
-- a value without shared lists: its tuples alone are looked at
mutual
theorem Rep.noL (hT : ∀ x vs, F x = some (.tup vs) → F' x = some (.tup vs)) : ∀ (d : D) {v : V} {P : Fp}, Rep S F H d v P → noL d = true → Rep S F' H d v P
  | .non, v, P, h, k => h
  | .bl b, v, P, h, k => h
  | .int i, v, P, h, k => h
  | .str s, v, P, h, k => h
  | .tup ds, v, P, h, k => by
    simp only [Rep] at h ⊢
    simp only [Ab.noL] at k
    obtain ⟨e, a, vs, ev, ea, h⟩ := h
    exact ⟨e, a, vs, ev, hT _ _ ea, Reps.noL hT ds h k⟩
  | .lst m ds, v, P, h, k => by
    simp only [Ab.noL, Bool.and_eq_true] at k
    simp only [Rep, k.1, if_pos] at h ⊢
    obtain ⟨a, vs, ev, ea, pa, P', np, eP, h⟩ := h
    exact ⟨a, vs, ev, ea, pa, P', np, eP, Reps.noL hT ds h k.2⟩
  | .ins m c ds, v, P, h, k => by
    simp only [Ab.noL, Bool.and_eq_true] at k
    simp only [Rep, k.1, if_pos] at h ⊢
    obtain ⟨a, cl, dx, vs, ev, hc, hl, ea, pa, P', np, eP, h⟩ := h
    exact ⟨a, cl, dx, vs, ev, hc, hl, ea, pa, P', np, eP, Reps.noL hT ds h k.2⟩
  | .dic m t ks ds, v, P, h, k => by
    simp only [Ab.noL, Bool.and_eq_true] at k
    simp only [Rep, k.1, if_pos] at h ⊢
    obtain ⟨a, vs, bs, ev, hk, hl, hb, ea, pa, P', np, eP, h⟩ := h
    exact ⟨a, vs, bs, ev, hk, hl, fun e => Reps.noL hT ks (hb e) (nOks_noL ks (kOks_n e hk)), ea, pa, P', np, eP, Reps.noL hT ds h k.2⟩
  | .scr is, v, P, h, k => by simp [Ab.noL] at k
  | .clo n cap, v, P, h, k => by simp [Ab.noL] at k
  | .fn n js, v, P, h, k => by simp [Ab.noL] at k
  | .tbs, v, P, h, k => by simp [Ab.noL] at k
theorem Reps.noL (hT : ∀ x vs, F x = some (.tup vs) → F' x = some (.tup vs)) : ∀ (ds : List D) {vs : List V} {P : Fp}, Reps S F H ds vs P → noLs ds = true → Reps S F' H ds vs P
  | [], vs, P, h, k => h
  | d :: ds, vs, P, h, k => by
    simp only [noLs, Bool.and_eq_true] at k
    simp only [Reps] at h ⊢
    obtain ⟨v, r, P1, P2, e1, e2, di, h1, h2⟩ := h
    exact ⟨v, r, P1, P2, e1, e2, di, Rep.noL hT d h1 k.1, Reps.noL hT ds h2 k.2⟩
end
end Ab
namespace Ab
open PySem L2
open Classical
variable {S : Sig} {Z : L2.St → Nat → Hp → Prop} {F F' H H' : Hp} {P : Fp} {σ : L2.St} {a a' : SA}

def RepAV (S : Sig) (F H : Hp) (σ : L2.St) : List AV → List V → Fp → Prop
  | [], vs, P => vs = [] ∧ P = Emp
  | .val d :: r, vs, P => ∃ v vr P1 P2, vs = v :: vr ∧ P = Uni P1 P2 ∧ Dis P1 P2 ∧ Rep S F H d v P1 ∧ RepAV S F H σ r vr P2
  | .bor i :: r, vs, P => ∃ v vr, vs = v :: vr ∧ σ[i]? = some (some v) ∧ RepAV S F H σ r vr P
  | .mv i :: r, vs, P => ∃ v vr, vs = v :: vr ∧ σ[i]? = some (some v) ∧ RepAV S F H σ r vr P
structure OkA (S : Sig) (F H : Hp) (P : Fp) (σ : L2.St) (avs : List AV) (a' : SA) (vs : List V) (F' H' : Hp) (Pd Pa : Fp) : Prop where
  rep : RepAV S F' H' σ avs vs Pd
  sr : SR S F' H' a' σ Pa
  ext : Ext F F' H H' P Pa
  ext2 : Ext F F' H H' P (Uni Pd Pa)
  dis : Dis Pd Pa
  fr : ∀ x, Pd x → F' x = none
theorem RepAV.keep (hF : Same F F') : ∀ {avs : List AV} {vs : List V} {P : Fp}, RepAV S F H σ avs vs P → (∀ x, P x → H' x = H x) → RepAV S F' H' σ avs vs P
  | [], vs, P, h, k => h
  | .val d :: r, vs, P, h, k => by
    obtain ⟨v, vr, P1, P2, e1, e2, di, h1, h2⟩ := h
    exact ⟨v, vr, P1, P2, e1, e2, di, h1.keep hF d fun x hx => k x (by rw [e2]; exact .inl hx), RepAV.keep hF h2 fun x hx => k x (by rw [e2]; exact .inr hx)⟩
  | .bor i :: r, vs, P, h, k => by
    obtain ⟨v, vr, e1, e2, h2⟩ := h
    exact ⟨v, vr, e1, e2, RepAV.keep hF h2 k⟩
  | .mv i :: r, vs, P, h, k => by
    obtain ⟨v, vr, e1, e2, h2⟩ := h
    exact ⟨v, vr, e1, e2, RepAV.keep hF h2 k⟩
/-- the reading of an argument list -/
def tAV (S : Sig) (Z : L2.St → Nat → Hp → Prop) (kp : Bool) (f : SA → Er (List AV)) : TA := fun σ H Q => ∃ F P a, SR S F H a σ P ∧
  Out S (Z σ) F H P σ (fun avs a' => ∀ vs F' H' Pd Pa, OkA S F H P σ avs a' vs F' H' Pd Pa → (kp = true → Same H H') → Q vs H') (f a)
def mvsA : MAs → List Nat
  | .nil => []
  | .cons (.mv i) as => i :: mvsA as
  | .cons (.tok i) as => i :: mvsA as
  | .cons _ as => mvsA as
def posA (k : Nat) : MAs → List Nat
  | .nil => []
  | .cons (.mv _) as => k :: posA (k + 1) as
  | .cons (.tok _) as => k :: posA (k + 1) as
  | .cons _ as => posA (k + 1) as
def posV (k : Nat) : List AV → List Nat
  | [] => []
  | .mv _ :: as => k :: posV (k + 1) as
  | _ :: as => posV (k + 1) as
/-- what is pure but for what is handed on -/
def calmA : MA → Bool
  | .rd e => pureE e
  | _ => true
def calmAs : MAs → Bool
  | .nil => true
  | .cons a as => calmA a && calmAs as
section
variable {X : Cx} {G : Env0A} {W : Nat}
abbrev tAVs (S : Sig) (Z : L2.St → Nat → Hp → Prop) (G : Env0A) (W : Nat) (as : MAs) : TA := tAV S Z (calmAs as) (evAs G W as)
theorem OkA.nil (sr : SR S F H a σ P) : OkA S F H P σ [] a [] F H Emp P :=
  ⟨⟨rfl, rfl⟩, sr, .refl, by rw [emp_uni]; exact .refl, emp_dis, fun x h => h.elim⟩
theorem a_nil : PA X [] (tAVs S Z G W .nil) := pa_nil.weak fun σ H Q h => by
  obtain ⟨F, P, a, sr, o⟩ := h
  exact o [] F H Emp P (.nil sr) fun _ _ _ z => z
theorem a_rd {e : Expr} {es : List Expr} {me : ME} {as : MAs} (he : PE X e (tE S Z G W false me)) (hs : PA X es (tAVs S Z G W as)) (hst : starEach (e :: es) X.env = (false, eval e X.env) :: starEach es X.env) : PA X (e :: es) (tAVs S Z G W (.cons (.rd me) as)) := by
  refine (pa_cons he hs hst).weak fun σ H Q h => ?_
  obtain ⟨F, P, a, sr, o⟩ := h
  have e0 : evAs G W (.cons (.rd me) as) a = ((ev G W false me a).bind fun d s1 => (evAs G W as s1).bind fun xs s2 => .ok (.val d :: xs) s2) := by
    simp only [evAs, evA]
    cases ev G W false me a <;> rfl
  rw [e0] at o
  refine ⟨F, P, a, sr, o.bind.imp fun d a1 e1 o1 v1 F1 H1 P1 Pa1 ok1 => ⟨F1, Pa1, a1, ok1.sr, (o1.bind.at ok1.ext).imp fun avs a2 e2 o2 vs F2 H2 P2 Pa2 ok2 sm2 => ?_⟩⟩
  have di := ok1.dis rfl
  have held := ok1.rep.held d
  have d2 := ok2.ext2.dis di held
  refine o2 (v1 :: vs) F2 H2 (Uni P1 P2) Pa2 ⟨⟨v1, vs, P1, P2, rfl, rfl, fun x h1 h2 => d2 x h1 (.inl h2), ok2.ext.aside ok1.rep di, ok2.rep⟩, ok2.sr, ok1.ext.trans ok2.ext, ?_, Dis.uni (fun x h1 h2 => d2 x h1 (.inr h2)) ok2.dis, fun x h => h.elim (ok2.ext.unf di held (ok1.rep.notup d) (ok1.fr rfl) x) (ok2.fr x)⟩ fun h => ?_
  · have z := ok2.ext2.frame (R := P1)
    rw [uni_comm Pa1 P1] at z
    refine ((ok1.ext2 rfl).trans z).eqP ?_
    rw [uni_comm (Uni P2 Pa2), ← uni_assoc]
  · simp only [calmAs, calmA, Bool.and_eq_true] at h
    exact (ok1.same h.1).trans (sm2 h.2)
theorem a_slot {i : Nat} {x : Str} {pos : Pos} {es : List Expr} {as : MAs} {m : MA} (hm : m = .bor i ∨ m = .mv i) (hN : X.N[i]? = some x) (hv : Vis X.env.scope x) (hd : (x == ("__debug__" : Str)) = false) (hcd : (x == ("__classdict__" : Str)) = false)
    (hs : PA X es (tAVs S Z G W as)) (hst : starEach (.Name x pos :: es) X.env = (false, eval (.Name x pos) X.env) :: starEach es X.env) : PA X (.Name x pos :: es) (tAVs S Z G W (.cons m as)) := by
  refine (pa_cons (pe_var hN hv hd hcd) hs hst).weak fun σ H Q h => ?_
  obtain ⟨F, P, a, sr, o⟩ := h
  cases e : rd a i with
  | none =>
    rcases hm with rfl | rfl <;> (simp only [evAs, evA, e] at o; exact o.elim)
  | some d =>
    obtain ⟨v, P1, P2, e1, e2, di, r, h2, _⟩ := sr.rep.focus (rd_some e)
    refine ⟨v, e1, F, P, a, sr, ?_⟩
    rcases hm with rfl | rfl
    · simp only [evAs, evA, e] at o
      refine Out.imp (Out.bind o) fun avs a2 e2 o2 vs F2 H2 P2 Pa2 ok2 sm2 => ?_
      exact o2 (v :: vs) F2 H2 P2 Pa2 ⟨⟨v, vs, rfl, e1, ok2.rep⟩, ok2.sr, ok2.ext, ok2.ext2, ok2.dis, ok2.fr⟩ fun h => sm2 (by simp only [calmAs, calmA, Bool.and_eq_true] at h; exact h.2)
    · simp only [evAs, evA, e] at o
      refine Out.imp (Out.bind o) fun avs a2 e2 o2 vs F2 H2 P2 Pa2 ok2 sm2 => ?_
      exact o2 (v :: vs) F2 H2 P2 Pa2 ⟨⟨v, vs, rfl, e1, ok2.rep⟩, ok2.sr, ok2.ext, ok2.ext2, ok2.dis, ok2.fr⟩ fun h => sm2 (by simp only [calmAs, calmA, Bool.and_eq_true] at h; exact h.2)
/-- what an argument list's outcome tells of its marks -/
theorem evAs_pos : ∀ {as : MAs} {a a' : SA} {avs : List AV} (k : Nat), evAs G W as a = .ok avs a' → posV k avs = posA k as ∧ mvs avs = mvsA as
  | .nil, a, a', avs, k, h => by
    simp only [evAs, Er.ok.injEq] at h
    rw [← h.1]; exact ⟨rfl, rfl⟩
  | .cons m as, a, a', avs, k, h => by
    simp only [evAs] at h
    cases hm : evA G W m a with
    | bad => rw [hm] at h; cases h
    | rz c s => rw [hm] at h; cases h
    | ok av s =>
      rw [hm] at h
      simp only [Er.bind] at h
      cases ha : evAs G W as s with
      | bad => rw [ha] at h; cases h
      | rz c s => rw [ha] at h; cases h
      | ok xs s2 =>
        rw [ha] at h
        simp only [Er.ok.injEq] at h
        obtain ⟨rfl, _⟩ := h
        obtain ⟨q1, q2⟩ := evAs_pos (k + 1) ha
        cases m with
        | rd e =>
          simp only [evA] at hm
          cases he : ev G W false e a with
          | bad => rw [he] at hm; cases hm
          | rz c s => rw [he] at hm; cases hm
          | ok d s' =>
            rw [he] at hm
            simp only [Er.bind, Er.ok.injEq] at hm
            obtain ⟨rfl, _⟩ := hm
            exact ⟨q1, q2⟩
        | bor i =>
          simp only [evA] at hm
          split at hm
          · simp only [Er.ok.injEq] at hm
            obtain ⟨rfl, _⟩ := hm
            exact ⟨q1, q2⟩
          · cases hm
        | mv i =>
          simp only [evA] at hm
          split at hm
          · simp only [Er.ok.injEq] at hm
            obtain ⟨rfl, _⟩ := hm
            exact ⟨by simp only [posV, posA, q1], by simp only [mvs, mvsA, q2]⟩
          · cases hm
        | tok i =>
          simp only [evA] at hm
          split at hm
          · simp only [Er.ok.injEq] at hm
            obtain ⟨rfl, _⟩ := hm
            exact ⟨by simp only [posV, posA, q1], by simp only [mvs, mvsA, q2]⟩
          · cases hm
end
/-! ### what a def promises -/
def RzOk (S : Sig) (F H : Hp) (P : Fp) (fix : List Nat) (vs : List V) (Q : VK) (E : XK) : Res → Prop
  | .ok d ms => ∀ v ws F' H' Pd Pm, slotVs (vs.map some) fix ws → Rep S F' H' d v Pd → Reps S F' H' ms ws Pm → Dis Pd Pm → (∀ x, Uni Pd Pm x → F' x = none) → Same F' H' → Ext F F' H H' P (Uni Pd Pm) → Q v H'
  | .rz c ms => ∀ ws F' H' Pm, slotVs (vs.map some) fix ws → Reps S F' H' ms ws Pm → (∀ x, Pm x → F' x = none) → Same F' H' → Ext F F' H H' P Pm → E (S.exn c) none H'
  | .bad => False
def spA (S : Sig) (fix : List Nat) (g : Callee) : Sp := fun vs H Q E => ∃ F ds P, Reps S F H ds vs P ∧ (∀ x, P x → F x = none) ∧ Same F H ∧ RzOk S F H P fix vs Q E (g ds)
theorem avDs_mvD {a : SA} : ∀ {avs : List AV} {ds : List D}, avDs a avs = some ds → ∃ ms, mvD (mvs avs) a = some ms
  | [], ds, h => ⟨[], rfl⟩
  | .val d :: r, ds, h => by
    simp only [avDs, Option.bind_eq_some_iff, Option.map_eq_some_iff] at h
    obtain ⟨d', _, ds', h2, _⟩ := h
    obtain ⟨ms, h3⟩ := avDs_mvD (avs := r) h2
    exact ⟨ms, h3⟩
  | .bor i :: r, ds, h => by
    simp only [avDs, Option.bind_eq_some_iff, Option.map_eq_some_iff] at h
    obtain ⟨d', _, ds', h2, _⟩ := h
    obtain ⟨ms, h3⟩ := avDs_mvD (avs := r) h2
    exact ⟨ms, h3⟩
  | .mv i :: r, ds, h => by
    simp only [avDs, avD, Option.bind_eq_some_iff, Option.map_eq_some_iff] at h
    obtain ⟨d', h1, ds', h2, _⟩ := h
    obtain ⟨ms, h3⟩ := avDs_mvD h2
    exact ⟨d' :: ms, by simp only [mvs, mvD, h1, h3]; rfl⟩
theorem av_reps {F1 H1 Fc : Hp} {a : SA} (sF : Same F1 Fc) : ∀ {avs : List AV} {vs : List V} {Pd : Fp} {ds ms : List D} {vs0 : List V} {Pm : Fp}, RepAV S F1 H1 σ avs vs Pd → avDs a avs = some ds → mvD (mvs avs) a = some ms → slotVs σ (mvs avs) vs0 → Reps S F1 H1 ms vs0 Pm → (∀ x, Pd x → Fc x = H1 x) →
    (∀ i ∈ bors avs, ∀ d v, rd a i = some d → σ[i]? = some (some v) → Rep S Fc H1 (frz d) v Emp) → Reps S Fc H1 ds vs Pm
  | [], vs, Pd, ds, ms, vs0, Pm, r, e1, e2, sv, rm, hp, hb => by
    simp only [avDs, Option.some.injEq] at e1
    simp only [mvs, mvD, Option.some.injEq] at e2
    subst e1; subst e2
    simp only [Reps] at rm ⊢
    exact ⟨r.1, rm.2⟩
  | .val d :: r, vs, Pd, ds, ms, vs0, Pm, ra, e1, e2, sv, rm, hp, hb => by
    simp only [avDs, avD, Option.bind_eq_some_iff, Option.map_eq_some_iff] at e1
    obtain ⟨d', h1, ds', h2, rfl⟩ := e1
    cases h1
    obtain ⟨v, vr, P1, P2, rfl, rfl, di, rv, rr⟩ := ra
    simp only [Reps]
    exact ⟨v, vr, Emp, Pm, rfl, (emp_uni _).symm, emp_dis, rv.frz sF d fun x hx => hp x (.inl hx), av_reps sF rr h2 e2 sv rm (fun x hx => hp x (.inr hx)) hb⟩
  | .bor i :: r, vs, Pd, ds, ms, vs0, Pm, ra, e1, e2, sv, rm, hp, hb => by
    simp only [avDs, avD, Option.bind_eq_some_iff, Option.map_eq_some_iff] at e1
    obtain ⟨d', ⟨d0, h0, rfl⟩, ds', h2, rfl⟩ := e1
    obtain ⟨v, vr, rfl, ev, rr⟩ := ra
    simp only [Reps]
    exact ⟨v, vr, Emp, Pm, rfl, (emp_uni _).symm, emp_dis, hb i (by simp [bors]) d0 v h0 ev, av_reps sF rr h2 e2 sv rm hp fun j hj => hb j (by simp [bors, hj])⟩
  | .mv i :: r, vs, Pd, ds, ms, vs0, Pm, ra, e1, e2, sv, rm, hp, hb => by
    simp only [avDs, avD, Option.bind_eq_some_iff, Option.map_eq_some_iff] at e1
    obtain ⟨d', h1, ds', h2, rfl⟩ := e1
    simp only [mvs, mvD, Option.bind_eq_some_iff, Option.map_eq_some_iff] at e2
    obtain ⟨d2, k1, ms', k2, rfl⟩ := e2
    rw [h1] at k1; cases k1
    obtain ⟨v, vr, rfl, ev, rr⟩ := ra
    obtain ⟨v', vr', rfl, ev', sv⟩ := sv
    rw [ev] at ev'; cases ev'
    simp only [Reps] at rm ⊢
    obtain ⟨v2, r2, P1, P2, e3, rfl, di, rv, rs⟩ := rm
    cases e3
    exact ⟨v, vr, P1, P2, rfl, rfl, di, rv.keep sF d' fun _ _ => rfl, av_reps sF rr h2 k2 sv rs hp hb⟩
theorem slots_of {F1 H1 : Hp} : ∀ {avs : List AV} {vs pre ws : List V} {Pd : Fp}, RepAV S F1 H1 σ avs vs Pd → slotVs ((pre ++ vs).map some) (posV pre.length avs) ws → slotVs σ (mvs avs) ws
  | [], vs, pre, ws, Pd, ra, h => h
  | .val d :: r, vs, pre, ws, Pd, ra, h => by
    obtain ⟨v, vr, P1, P2, rfl, rfl, di, rv, rr⟩ := ra
    show slotVs σ (mvs r) ws
    refine slots_of (avs := r) (pre := pre ++ [v]) rr ?_
    rw [List.append_assoc, List.length_append]; exact h
  | .bor i :: r, vs, pre, ws, Pd, ra, h => by
    obtain ⟨v, vr, rfl, ev, rr⟩ := ra
    show slotVs σ (mvs r) ws
    refine slots_of (avs := r) (pre := pre ++ [v]) rr ?_
    rw [List.append_assoc, List.length_append]; exact h
  | .mv i :: r, vs, pre, ws, Pd, ra, h => by
    obtain ⟨v, vr, rfl, ev, rr⟩ := ra
    obtain ⟨w, wr, rfl, ew, h⟩ := h
    have : w = v := by
      rw [List.getElem?_map, List.getElem?_append_right (Nat.le_refl _), Nat.sub_self] at ew
      simpa using ew.symm
    subst this
    refine ⟨w, wr, rfl, ev, slots_of (pre := pre ++ [w]) rr ?_⟩
    rw [List.append_assoc, List.length_append]; exact h
end Ab
namespace Ab
open PySem L2
open Classical
variable {S : Sig} {Z : L2.St → Nat → Hp → Prop} {F F' H H' : Hp} {P : Fp} {σ : L2.St} {a a' : SA}

structure Came (S : Sig) (F1 F' F2 H1 H' : Hp) (Pm N Pr R : Fp) (b : SA) (σ : L2.St) : Prop where
  same : Same F1 F2
  tup : ∀ x vs, F' x = some (.tup vs) → F2 x = some (.tup vs)
  lent : (∀ x, R x → ¬ Pr x) → F2 = F'
  rep : RepS S F2 H' b σ Pr
  fr : ∀ x, Uni N Pr x → F2 x = none
  sub : Same F2 H'
  dis : Dis N Pr
  ext : ∀ Pd, (∀ x, R x → Uni Pd Pr x) → Ext F1 F2 H1 H' (Uni Pd (Uni Pm Pr)) (Uni N Pr)
theorem came {F1 F' H1 H' : Hp} {Pm N Pr R : Fp} {b : SA} (rep : RepS S F1 H1 b σ Pr) (sub : Same F1 H1) (fr : ∀ x, Uni Pm Pr x → F1 x = none) (hR : ∀ x, R x → F1 x = none) (dPm : Dis Pm Pr)
    (ex : Ext (take F1 H1 R) F' H1 H' Pm N) (nf : ∀ x, N x → F' x = none) (sub' : Same F' H') : ∃ F2, Came S F1 F' F2 H1 H' Pm N Pr R b σ := by
  have held := rep.held
  have kept : ∀ x, Pr x → H' x = H1 x := fun x hx => by
    obtain ⟨o, q⟩ := held x hx
    rw [q]; exact ex.kept x o q fun z => dPm x z hx
  have sF := (take_same (H := H1) hR).trans ex.same
  have f2 : ∀ x, ¬ Pr x → (if Pr x then (none : Option HO) else F' x) = F' x := fun x h => if_neg h
  have f0 : ∀ x, Pr x → (if Pr x then (none : Option HO) else F' x) = none := fun x h => if_pos h
  have s12 : Same F1 fun x => if Pr x then none else F' x := fun x o e => by
    have : ¬ Pr x := fun z => by rw [fr x (.inr z)] at e; cases e
    show (if Pr x then none else F' x) = some o
    rw [f2 x this]; exact sF x o e
  refine ⟨fun x => if Pr x then none else F' x, s12, fun x vs e => ?_, fun h => ?_, rep.keep s12 kept, fun x h => ?_, fun x o e => ?_, fun x hn hp => ?_, fun Pd hPd => ⟨s12, fun x o e n => ?_, fun x h => ?_, fun x o e => ?_⟩⟩
  · have : ¬ Pr x := fun z => by
      obtain ⟨o, q, t⟩ := rep.nt x z
      have := sub' x _ e
      rw [kept x z, q] at this
      cases this
      exact t
    show (if Pr x then none else F' x) = _
    rw [f2 x this, e]
  · funext x
    show (if Pr x then none else F' x) = _
    by_cases hp : Pr x
    · rw [f0 x hp]
      cases q : F' x with
      | none => rfl
      | some o =>
        rcases ex.frz x o q with ⟨o', z⟩ | z | z | ⟨ws, z⟩
        · rw [take_out fun z => h x z hp, fr x (.inr hp)] at z; cases z
        · exact (dPm x z hp).elim
        · obtain ⟨o', q'⟩ := held x hp
          rw [z] at q'; cases q'
        · obtain ⟨o', q', t⟩ := rep.nt x hp
          rw [z] at q'; cases q'; exact t.elim
    · rw [f2 x hp]
  · show (if Pr x then none else F' x) = none
    by_cases hp : Pr x
    · exact f0 x hp
    · rw [f2 x hp]
      exact nf x (h.elim id fun z => (hp z).elim)
  · have e : (if Pr x then none else F' x) = some o := e
    by_cases hp : Pr x
    · rw [f0 x hp] at e; cases e
    · rw [f2 x hp] at e; exact sub' x o e
  · rcases ex.own x hn with z | z
    · exact dPm x z hp
    · obtain ⟨o', q'⟩ := held x hp
      rw [z] at q'; cases q'
  · exact ex.kept x o e fun z => n (.inr (.inl z))
  · rcases h with h | h
    · exact (ex.own x h).elim (fun z => .inl (.inr (.inl z))) .inr
    · exact .inl (.inr (.inr h))
  · have e : (if Pr x then none else F' x) = some o := e
    by_cases hp : Pr x
    · rw [f0 x hp] at e; cases e
    · rw [f2 x hp] at e
      rcases ex.frz x o e with ⟨o', z⟩ | z | z | z
      · by_cases hr : R x
        · exact .inr (.inl ((hPd x hr).elim .inl fun z => .inr (.inr z)))
        · rw [take_out hr] at z; exact .inl ⟨o', z⟩
      · exact .inr (.inl (.inr (.inl z)))
      · exact .inr (.inr (.inl z))
      · exact .inr (.inr (.inr z))
theorem rd_lt {s : SA} {i : Nat} {d : D} (h : rd s i = some d) : i < s.length := (List.getElem?_eq_some_iff.mp (rd_some h)).1
theorem mvD_lt : ∀ {is : List Nat} {s : SA} {ms : List D}, mvD is s = some ms → ∀ i ∈ is, i < s.length
  | [], s, ms, h, i, hi => by simp at hi
  | j :: js, s, ms, h, i, hi => by
    simp only [mvD, Option.bind_eq_some_iff, Option.map_eq_some_iff] at h
    obtain ⟨d, h1, ms', h2, _⟩ := h
    rcases List.mem_cons.mp hi with rfl | hi
    · exact rd_lt h1
    · exact mvD_lt h2 i hi
theorem lent_still {as : List AV} {s : SA} (h : lent as s = true) : ∀ i ∈ bors as, ∀ d, rd s i = some d → still d = true := fun i hi d e => by
  unfold lent at h
  have := List.all_eq_true.mp h i hi
  rw [e] at this
  exact this
/-- a call: what is handed on is taken out of the slots, and put back behind it -/
theorem called_ok {g : Callee} {avs : List AV} {vs : List V} {F1 H1 : Hp} {Pd Pa : Fp} {kp : Bool} {Q : VK} {E : XK} (ok : OkA S F H P σ avs a vs F1 H1 Pd Pa) (o : Out S (Z σ) F H P σ (KV S F H P σ ⟨true, kp, none⟩ Q) (called g avs a))
    (hk : kp = true → mvs avs = [] ∧ Same H H1) (hE : ∀ c H', Z σ c H' → E (S.exn c) none H') : spA S (posV 0 avs) g vs H1 Q E := by
  unfold called at o
  cases ed : avDs a avs with
  | none => rw [ed] at o; exact o.elim
  | some ds =>
    rw [ed] at o
    simp only at o
    split at o
    case isFalse => exact o.elim
    rename_i hok
    unfold okAV at hok
    simp only [Bool.and_eq_true] at hok
    obtain ⟨nd, hnb⟩ := hok
    obtain ⟨ms0, em⟩ := avDs_mvD ed
    obtain ⟨vs0, Pm, Pr, sv, rm, rr, eP, dmr⟩ := ok.sr.rep.out nd em
    have nb : ∀ i ∈ bors avs, ¬ i ∈ mvs avs := fun i hi hm => by
      have := List.all_eq_true.mp hnb i hm
      simp only [Bool.not_eq_true', List.contains_eq_mem, decide_eq_false_iff_not] at this
      exact this hi
    have hPa : ∀ x, Pa x → F1 x = none := ok.sr.fr
    have hPm : ∀ x, Pm x → F1 x = none := fun x hx => hPa x (by rw [eP]; exact .inl hx)
    have hPr : ∀ x, Pr x → F1 x = none := fun x hx => hPa x (by rw [eP]; exact .inr hx)
    have dPd : Dis Pd Pm ∧ Dis Pd Pr := ⟨fun x h1 h2 => ok.dis x h1 (by rw [eP]; exact .inl h2), fun x h1 h2 => ok.dis x h1 (by rw [eP]; exact .inr h2)⟩
    -- what is shared for the callee
    have main : ∀ R : Fp, (∀ x, Pd x → R x) → (∀ x, R x → Uni Pd Pr x) → (∀ i ∈ bors avs, ∀ d v P1, rd a i = some d → Rep S F1 H1 d v P1 → (∀ x, P1 x → Pr x) → ∀ x, P1 x → R x) →
        (∀ d ms, g ds = .ok d ms → (∀ x, R x → ¬ Pr x) ∨ (noL d = true ∧ noLs ms = true)) → (∀ c ms, g ds = .rz c ms → (∀ x, R x → ¬ Pr x) ∨ noLs ms = true) → spA S (posV 0 avs) g vs H1 Q E := fun R hR1 hR2 hR3 hn1 hn2 => by
      have hR : ∀ x, R x → F1 x = none := fun x h => (hR2 x h).elim (ok.fr x) (hPr x)
      have sF := take_same (H := H1) hR
      have rb : ∀ i ∈ bors avs, ∀ d v, rd a i = some d → σ[i]? = some (some v) → Rep S (take F1 H1 R) H1 (frz d) v Emp := fun i hi d v e1 e2 => by
        have e3 : rd (clr (mvs avs) a) i = some d := by rw [rd_clr (nb i hi)]; exact e1
        obtain ⟨v', P1, P2, q1, q2, di, r, _, _⟩ := rr.focus (rd_some e3)
        rw [e2] at q1; cases q1
        exact r.frz sF d fun x hx => take_in (hR3 i hi d v P1 e1 r (fun x hx => by rw [q2]; exact .inl hx) x hx)
      have reps := av_reps (Fc := take F1 H1 R) sF ok.rep ed em sv rm (fun x hx => take_in (hR1 x hx)) rb
      have fPm : ∀ x, Pm x → take F1 H1 R x = none := fun x hx => by
        rw [take_out fun z => (hR2 x z).elim (fun q => dPd.1 x q hx) fun q => dmr x hx q]
        exact hPm x hx
      refine ⟨take F1 H1 R, ds, Pm, reps, fPm, take_sub ok.sr.sub, ?_⟩
      have lt := mvD_lt em
      cases eg : g ds with
      | bad => rw [eg] at o; exact o.elim
      | ok d ms =>
        rw [eg] at o
        simp only at o
        split at o
        case isFalse => exact o.elim
        split at o
        case h_2 => exact o.elim
        rename_i s' es
        intro v ws F' H' Pd' Pm' sw rd' rms dd nf sub' ex
        have sw' : slotVs σ (mvs avs) ws := slots_of (pre := []) ok.rep sw
        obtain ⟨F2, c⟩ := came (b := clr (mvs avs) a) (σ := σ) (R := R) rr ok.sr.sub (fun x h => h.elim (hPm x) (hPr x)) hR dmr ex nf sub'
        have rr2 : Rep S F2 H' d v Pd' ∧ Reps S F2 H' ms ws Pm' := by
          rcases hn1 d ms eg with h | h
          · rw [c.lent h]; exact ⟨rd', rms⟩
          · exact ⟨rd'.noL c.tup d h.1, Reps.noL c.tup ms rms h.2⟩
        have bk := RepS.back (is := mvs avs) c.rep nd lt sw' rr2.2 (fun x h1 h2 => c.dis x (.inr h1) h2) es
        have ex2 := c.ext Pd hR2
        rw [← eP] at ex2
        have exx := (ok.ext2.trans ex2)
        refine o v F2 H' Pd' (Uni Pm' Pr) ⟨rr2.1, ⟨bk, fun x h => c.fr x (h.elim (fun z => .inl (.inr z)) .inr), c.sub⟩, exx.less fun x h => h.elim (fun z => .inl (.inr z)) .inr, fun _ => exx.eqP (uni_assoc _ _ _), fun _ => dd.uni' fun x h1 h2 => c.dis x (.inl h1) h2, fun _ x h => c.fr x (.inl (.inl h)), fun h => ?_, fun i h => nomatch h⟩
        obtain ⟨hm, sH⟩ := hk h
        refine sH.trans fun x o e => ex.kept x o e fun z => ?_
        have hm0 : ms0 = [] := by rw [hm] at em; simpa [mvD] using em.symm
        subst hm0
        simp only [Reps] at rm
        rw [rm.2] at z
        exact z
      | rz cc ms =>
        rw [eg] at o
        simp only at o
        split at o
        case isFalse => exact o.elim
        split at o
        case h_2 => exact o.elim
        rename_i s' es
        intro ws F' H' Pm' sw rms nf sub' ex
        have sw' : slotVs σ (mvs avs) ws := slots_of (pre := []) ok.rep sw
        obtain ⟨F2, c⟩ := came (b := clr (mvs avs) a) (σ := σ) (R := R) rr ok.sr.sub (fun x h => h.elim (hPm x) (hPr x)) hR dmr ex nf sub'
        have rr2 : Reps S F2 H' ms ws Pm' := by
          rcases hn2 cc ms eg with h | h
          · rw [c.lent h]; exact rms
          · exact Reps.noL c.tup ms rms h
        have bk := RepS.back (is := mvs avs) c.rep nd lt sw' rr2 c.dis es
        have ex2 := c.ext Pd hR2
        rw [← eP] at ex2
        exact hE _ _ (o F2 H' _ ⟨bk, c.fr, c.sub⟩ (ok.ext2.trans ex2))
    by_cases hl : lent avs a = true
    · refine main Pd (fun x h => h) (fun x h => .inl h) (fun i hi d v P1 e r _ x hx => ?_) (fun d ms _ => .inl fun x h1 h2 => dPd.2 x h1 h2) fun c ms _ => .inl fun x h1 h2 => dPd.2 x h1 h2
      have := r.still d (lent_still hl i hi d e)
      rw [this] at hx; exact hx.elim
    · refine main (Uni Pd Pr) (fun x h => .inl h) (fun x h => h) (fun i hi d v P1 e r hs x hx => .inr (hs x hx)) (fun d ms eg => ?_) fun c ms eg => ?_
      · rw [eg] at o
        simp only [hl, Bool.false_or, Bool.and_eq_true] at o
        split at o
        · rename_i h; exact .inr h
        · exact o.elim
      · rw [eg] at o
        simp only [hl, Bool.false_or] at o
        split at o
        · rename_i h; exact .inr h
        · exact o.elim
end Ab
namespace Ab
open PySem L2
open Classical
variable {S : Sig} {Z : L2.St → Nat → Hp → Prop} {F F' H H' : Hp} {P : Fp} {σ : L2.St} {a a' : SA}

def noStar : Expr → Bool
  | .Starred _ _ => false
  | _ => true
theorem star_cons {e : Expr} {es : List Expr} {env : Env} (h : noStar e = true) : starEach (e :: es) env = (false, eval e env) :: starEach es env := by
  cases e <;> first | rfl | (simp [noStar] at h)
theorem star_any {es : List Expr} {env : Env} {pos : Pos} (h : es.all noStar = true) : (backTo pos (starEach es env)).any (·.1) = false := by
  induction es with
  | nil => rfl
  | cons e es ih =>
    simp only [List.all_cons, Bool.and_eq_true] at h
    rw [star_cons h.1]
    have := ih h.2
    simp only [backTo, List.map_cons, List.any_cons, Bool.false_or] at this ⊢
    exact this
/-- an object whose attribute is asked: no call -/
def baseOk : Expr → Bool
  | .Name _ _ => true
  | .Subscript _ _ _ => true
  | .Attribute _ _ _ => true
  | _ => false
theorem base_of {o : Expr} {m : Str} {env : Env} {w : Sem Value} (h : baseOk o = true) : attributeBase o m env w = w := by
  cases o <;> first | rfl | (simp [baseOk] at h)
end Ab
namespace Ab
open PySem L2
open Classical
variable {S : Sig} {Z : L2.St → Nat → Hp → Prop} {F F' H H' : Hp} {P : Fp} {σ : L2.St} {a a' : SA}

/-- the wish for raises, out of the machine's -/
def ZW (S : Sig) (Wd : WX) : L2.St → Nat → Hp → Prop := fun σ c H => Wd (S.exn c) none σ H
section
variable {X : Cx}
/-- a call, with or without arguments -/
theorem pe_callA {k : Nat} {f : Addr} {fd : FuncData} {ps : List Str} {sp : Sp} {Wd : WX} {x : Str} {p pos : Pos} {es : List Expr} {t : TA} (Fn : FnOk X.prog X.w X.K X.mg X.base (L2.CX X.prog X.w) k f fd ps sp) (hr : Room k X.A) (hg : Gl X x) (hm : X.mg x = some (.ref f)) (hk : PySem.W.keepIn X.K (.ref f) = true) (hb : Binds X.K fd ps [])
    (tk : Takes X Wd) (ha : PA X es t) (hdb : (x == ("__debug__" : Str)) = false) (hs : es.all noStar = true) (h0 : es = [] → ∀ σ H Q, t σ H Q → Q [] H) : PE X (.Call (.Name x p) es [] pos) (tCallS sp (WE Wd) t) := by
  cases es with
  | cons e es =>
    have hs' := hs
    simp only [List.all_cons, Bool.and_eq_true] at hs'
    exact pe_callS Fn hr hg hm hk hb (fun σ => passAt tk σ) ha hdb (star_cons hs'.1) (star_any hs'.2)
  | nil =>
    refine ⟨fun pins s σ H Q I h => wpAny_Call_Name_kw (ld_glob I hg hm ?_ hdb)⟩
    exact PySem.W.callWith_K0 I.kIn hk (run_fnS (us := []) Fn hr hb (passAt tk σ) I .nil (h0 rfl σ H _ h))
/-- C(..) -/
def tMakeA (X : Cx) (C : Addr) (sp : Sp) (Wd : WX) (t : TA) : TE := fun σ H Q => t σ H fun vs H1 => ∀ x dx, H1 x = none → H1 dx = none → dx ≠ x →
  sp (.ref x :: vs) (upd (upd H1 dx (.own x)) x (.ins C dx [])) (fun v H2 => v = .non ∧ Q (.ref x) H2) (WE Wd σ)
theorem run_makeA {pins : List (Addr × Obj)} {σ : L2.St} {H : Hp} {s : Shared} {Q : VK} {us : List Value} {vs : List V} {k : Nat} {f C : Addr} {fd : FuncData} {ps : List Str} {sp : Sp} {Wd : WX} (tk : Takes X Wd) (M : Mk X.K C f)
    (Fn : FnOk X.prog X.w X.K X.mg X.base (L2.CX X.prog X.w) k f fd ps sp) (hr : Room (k + 1) X.A) (hb : Binds X.K fd ps []) (I : Inv X pins σ H s) (r : Vals vs us)
    (h : ∀ x dx, H x = none → H dx = none → dx ≠ x → sp (.ref x :: vs) (upd (upd H dx (.own x)) x (.ins C dx [])) (fun v H2 => v = .non ∧ Q (.ref x) H2) (WE Wd σ)) :
    wpAny (model X.prog X.w) X.A (call (.ref C) us) (EP X pins σ Q) X.xe s := by
  have n0 := s.heap.objs.size
  have I2 := Inv.made (C := C) I
  have want := h (s.heap.objs.size + 1) s.heap.objs.size (I.hok.fresh (Nat.le_succ _)) (I.hok.fresh (Nat.le_refl _)) (Nat.ne_of_lt (Nat.lt_succ_self _))
  have rr : Vals (V.ref (s.heap.objs.size + 1) :: vs) (Value.ref (s.heap.objs.size + 1) :: us) := .cons rfl r
  have len : (Value.ref (s.heap.objs.size + 1) :: us ++ []).length = ps.length := by
    rw [List.append_nil, ← rr.length]; exact Fn.len _ _ _ _ want
  have bb := hb _ (Value.ref (s.heap.objs.size + 1) :: us) I2.kIn len
  rw [List.append_nil] at bb
  refine wpAny_call (make_map (f := f) I.kIn M.makes M.init (beq_iff_eq.mp M.fn) (codeAny_mono (Fn.run _ X.stack _ _ _ _ _ _ _ (hr.make C us []) (I2.env0.make C us []) bb rr want) ?_))
  intro out s2 hq
  match out, hq with
  | .error e, hq => exact passAt tk σ pins _ _ e s2 I2 hq
  | .ok (.ret u), hq =>
    obtain ⟨v, H3, I3, rv, ev, q⟩ := I2.after hq
    subst ev
    exact ⟨rv, ⟨V.ref (s.heap.objs.size + 1), H3, I3, rfl, q⟩⟩
  | .ok .next, hq => exact False.elim hq
  | .ok .brk, hq => exact False.elim hq
  | .ok .cont, hq => exact False.elim hq
theorem pe_makeA {k : Nat} {f C : Addr} {fd : FuncData} {ps : List Str} {sp : Sp} {Wd : WX} {x : Str} {p pos : Pos} {es : List Expr} {t : TA} (tk : Takes X Wd) (M : Mk X.K C f) (Fn : FnOk X.prog X.w X.K X.mg X.base (L2.CX X.prog X.w) k f fd ps sp) (hr : Room (k + 1) X.A)
    (hg : Gl X x) (hm : X.mg x = some (.ref C)) (hb : Binds X.K fd ps []) (ha : PA X es t) (hdb : (x == ("__debug__" : Str)) = false) (hs : es.all noStar = true) (h0 : es = [] → ∀ σ H Q, t σ H Q → Q [] H) :
    PE X (.Call (.Name x p) es [] pos) (tMakeA X C sp Wd t) := by
  refine ⟨fun pins s σ H Q I h => wpAny_Call_Name_kw (ld_glob I hg hm ?_ hdb)⟩
  cases es with
  | nil => exact PySem.W.callWith_K0 I.kIn M.kp (run_makeA (us := []) tk M Fn hr hb I .nil (h0 rfl σ H _ h))
  | cons e es =>
    have hs' := hs
    simp only [List.all_cons, Bool.and_eq_true] at hs'
    exact PySem.W.callWith_K (h₀ := X.base) I.ok.mod.kin M.kp (thn (ha.run pos pins s σ H _ I h) fun us s1 ⟨vs, H1, I1, r, q⟩ => ⟨I1.kIn, run_makeA tk M Fn hr hb I1 r q⟩) (star_cons hs'.1) (star_any hs'.2)
end
end Ab
namespace Ab
open PySem L2
open Classical
variable {S : Sig} {F F' H H' : Hp} {P : Fp} {σ : L2.St} {a a' : SA}

theorem pureAs_mv : ∀ {as : MAs}, pureAs as = true → mvsA as = [] ∧ calmAs as = true
  | .nil, h => ⟨rfl, rfl⟩
  | .cons (.rd e) as, h => by
    simp only [pureAs, pureA, Bool.and_eq_true] at h
    obtain ⟨h1, h2⟩ := pureAs_mv h.2
    exact ⟨h1, by simp only [calmAs, calmA, h.1, h2, Bool.and_self]⟩
  | .cons (.bor i) as, h => by
    simp only [pureAs, pureA, Bool.and_eq_true] at h
    obtain ⟨h1, h2⟩ := pureAs_mv h.2
    exact ⟨h1, by simp only [calmAs, calmA, h2, Bool.and_self]⟩
  | .cons (.mv i) as, h => by simp [pureAs, pureA] at h
  | .cons (.tok i) as, h => by simp [pureAs, pureA] at h
theorem OkA.cons {Z : L2.St → Nat → Hp → Prop} {av : AV} {avs : List AV} {a1 a2 : SA} {v : V} {vs : List V} {F1 H1 F2 H2 : Hp} {P1 Pa1 P2 Pa2 : Fp}
    (o1 : OkA S F H P σ [av] a1 [v] F1 H1 P1 Pa1) (o2 : OkA S F1 H1 Pa1 σ avs a2 vs F2 H2 P2 Pa2) : OkA S F H P σ (av :: avs) a2 (v :: vs) F2 H2 (Uni P1 P2) Pa2 := by
  have held : ∀ x, P1 x → ∃ o, H1 x = some o := fun x hx => by
    have r := o1.rep
    cases av with
    | val d =>
      obtain ⟨w, wr, Q1, Q2, e1, rfl, di, r1, r2⟩ := r
      rcases hx with hx | hx
      · exact r1.held d x hx
      · rw [r2.2] at hx; exact hx.elim
    | bor i =>
      obtain ⟨w, wr, e1, ev, r2⟩ := r
      rw [r2.2] at hx; exact hx.elim
    | mv i =>
      obtain ⟨w, wr, e1, ev, r2⟩ := r
      rw [r2.2] at hx; exact hx.elim
  have nt : ∀ x, P1 x → ∀ vs, H1 x ≠ some (.tup vs) := fun x hx vs => by
    have r := o1.rep
    cases av with
    | val d =>
      obtain ⟨w, wr, Q1, Q2, e1, rfl, di, r1, r2⟩ := r
      rcases hx with hx | hx
      · exact r1.notup d x hx vs
      · rw [r2.2] at hx; exact hx.elim
    | bor i =>
      obtain ⟨w, wr, e1, ev, r2⟩ := r
      rw [r2.2] at hx; exact hx.elim
    | mv i =>
      obtain ⟨w, wr, e1, ev, r2⟩ := r
      rw [r2.2] at hx; exact hx.elim
  have di := o1.dis
  have d2 := o2.ext2.dis di held
  refine ⟨?_, o2.sr, o1.ext.trans o2.ext, ?_, Dis.uni (fun x h1 h2 => d2 x h1 (.inr h2)) o2.dis, fun x h => h.elim (o2.ext.unf di held nt o1.fr x) (o2.fr x)⟩
  · have r := o1.rep
    cases av with
    | val d =>
      obtain ⟨w, wr, Q1, Q2, e1, rfl, dq, r1, r2⟩ := r
      cases e1
      rw [r2.2, uni_emp] at d2 di ⊢
      exact ⟨v, vs, Q1, P2, rfl, rfl, fun x h1 h2 => d2 x h1 (.inl h2), o2.ext.aside r1 di, o2.rep⟩
    | bor i =>
      obtain ⟨w, wr, e1, ev, r2⟩ := r
      cases e1
      rw [r2.2, emp_uni]
      exact ⟨v, vs, rfl, ev, o2.rep⟩
    | mv i =>
      obtain ⟨w, wr, e1, ev, r2⟩ := r
      cases e1
      rw [r2.2, emp_uni]
      exact ⟨v, vs, rfl, ev, o2.rep⟩
  · have z := o2.ext2.frame (R := P1)
    rw [uni_comm Pa1 P1] at z
    refine (o1.ext2.trans z).eqP ?_
    rw [uni_comm (Uni P2 Pa2), ← uni_assoc]
section
variable {X : Cx} {G : Env0A} {W : Nat} {Z : L2.St → Nat → Hp → Prop}
theorem methOf_frz {d : D} {c : Nat} (h : methOf (frz d) = some c) : ∃ m ds, d = .ins m c ds := by
  cases d <;> simp only [frz, methOf, reduceCtorEq, Option.some.injEq] at h
  subst h
  exact ⟨_, _, rfl⟩
theorem methOf_ins {d : D} {c : Nat} (h : methOf d = some c) : ∃ m ds, d = .ins m c ds := by
  cases d <;> simp only [methOf, reduceCtorEq, Option.some.injEq] at h
  subst h
  exact ⟨_, _, rfl⟩
/-- the receiver's class -/
theorem OkA.cls {av : AV} {v : V} {c : Nat} {F1 H1 : Hp} {Pd Pa : Fp} (o : OkA S F H P σ [av] a [v] F1 H1 Pd Pa) (h : (avD a av).bind methOf = some c) :
    ∃ p cl dx vs, v = .ref p ∧ S.cls c = some cl ∧ H1 p = some (.ins cl.addr dx (cl.fields.zip vs)) := by
  have r := o.rep
  cases av with
  | val d =>
    obtain ⟨w, wr, Q1, Q2, e1, e2, dq, r1, r2⟩ := r
    cases e1
    obtain ⟨m, ds, rfl⟩ := methOf_frz (d := d) (by simpa [avD] using h)
    obtain ⟨p, cl, dx, vs, P', rfl, hc, hl, ep, _⟩ := r1.ins_at o.sr.sub
    exact ⟨p, cl, dx, vs, rfl, hc, ep⟩
  | bor i =>
    obtain ⟨w, wr, e1, ev, r2⟩ := r
    cases e1
    simp only [avD, Option.bind_eq_some_iff, Option.map_eq_some_iff] at h
    obtain ⟨d0, ⟨d, e, rfl⟩, hm⟩ := h
    obtain ⟨m, ds, rfl⟩ := methOf_frz hm
    obtain ⟨v', P1, P2, e1, e2, di, r1, _⟩ := o.sr.rep.focus (rd_some e)
    rw [ev] at e1; cases e1
    obtain ⟨p, cl, dx, vs, P', rfl, hc, hl, ep, _⟩ := r1.ins_at o.sr.sub
    exact ⟨p, cl, dx, vs, rfl, hc, ep⟩
  | mv i =>
    obtain ⟨w, wr, e1, ev, r2⟩ := r
    cases e1
    simp only [avD, Option.bind_eq_some_iff] at h
    obtain ⟨d, e, hm⟩ := h
    obtain ⟨m, ds, rfl⟩ := methOf_ins hm
    obtain ⟨v', P1, P2, e1, e2, di, r1, _⟩ := o.sr.rep.focus (rd_some e)
    rw [ev] at e1; cases e1
    obtain ⟨p, cl, dx, vs, P', rfl, hc, hl, ep, _⟩ := r1.ins_at o.sr.sub
    exact ⟨p, cl, dx, vs, rfl, hc, ep⟩
end
section
variable {X : Cx} {G : Env0A} {W : Nat} {Wd : WX}
theorem tAVs_nil {Z : L2.St → Nat → Hp → Prop} {σ : L2.St} {H : Hp} {Q : List V → Hp → Prop} (h : tAVs S Z G W .nil σ H Q) : Q [] H := by
  obtain ⟨F, P, a, sr, o⟩ := h
  exact o [] F H Emp P (.nil sr) fun _ _ _ z => z
theorem c_call {fi : Nat} {g : Callee} {as : MAs} {k : Nat} {f : Addr} {fd : FuncData} {ps : List Str} {x : Str} {p pos : Pos} {es : List Expr} {v : Bool} (hG : G fi = some g) (tk : Takes X Wd)
    (Fn : FnOk X.prog X.w X.K X.mg X.base (L2.CX X.prog X.w) k f fd ps (spA S (posA 0 as) g)) (hr : Room k X.A) (hg : Gl X x) (hm : X.mg x = some (.ref f)) (hk : PySem.W.keepIn X.K (.ref f) = true) (hb : Binds X.K fd ps [])
    (hdb : (x == ("__debug__" : Str)) = false) (hs : es.all noStar = true) (hz : es = [] → as = .nil) (ha : PA X es (tAVs S (ZW S Wd) G W as)) : PE X (.Call (.Name x p) es [] pos) (tE S (ZW S Wd) G W v (.call fi as)) := by
  refine (pe_callA Fn hr hg hm hk hb tk ha hdb hs fun h σ H Q q => by rw [hz h] at q; exact tAVs_nil q).weak fun σ H Q h => ?_
  obtain ⟨F, P, a, sr, o⟩ := h
  simp only [ev, hG] at o
  refine ⟨F, P, a, sr, o.bind.imp fun avs a1 e1 o1 vs F1 H1 Pd Pa ok sm => ?_⟩
  obtain ⟨q1, q2⟩ := evAs_pos 0 e1
  rw [← q1]
  refine called_ok (Z := ZW S Wd) (kp := pureAs as) ok (by simpa [atE, rootOf, slotOf, pureE] using o1) (fun h => ?_) fun c H' z => z
  obtain ⟨z1, z2⟩ := pureAs_mv h
  exact ⟨by rw [q2, z1], sm z2⟩
end
end Ab
namespace Ab
open PySem L2
open Classical
variable {S : Sig} {F F' H H' : Hp} {P : Fp} {σ : L2.St} {a a' : SA}

theorem OkA.up {avs : List AV} {vs : List V} {F1 H1 H2 : Hp} {Pd Pa : Fp} (o : OkA S F H P σ avs a vs F1 H1 Pd Pa) (up : Same H1 H2) (held : ∀ x, Pd x → ∃ q, H1 x = some q) : OkA S F H P σ avs a vs F1 H2 Pd Pa := by
  have g : ∀ Q, Ext F F1 H H1 P Q → Ext F F1 H H2 P Q := fun Q e => ⟨e.same, fun x q h n => up x q (e.kept x q h n), e.own, e.frz⟩
  refine ⟨o.rep.keep (fun _ _ z => z) fun x hx => ?_, ⟨o.sr.rep.keep (fun _ _ z => z) fun x hx => ?_, o.sr.fr, o.sr.sub.trans up⟩, g _ o.ext, g _ o.ext2, o.dis, o.fr⟩
  · obtain ⟨q, h⟩ := held x hx
    rw [h, up x q h]
  · obtain ⟨q, h⟩ := o.sr.rep.held x hx
    rw [h, up x q h]
theorem RepAV.held {F H : Hp} : ∀ {avs : List AV} {vs : List V} {P : Fp}, RepAV S F H σ avs vs P → ∀ x, P x → ∃ o, H x = some o
  | [], vs, P, h, x, hx => by rw [h.2] at hx; exact hx.elim
  | .val d :: r, vs, P, h, x, hx => by
    obtain ⟨v, vr, P1, P2, e1, rfl, di, h1, h2⟩ := h
    exact hx.elim (h1.held d x) (RepAV.held h2 x)
  | .bor i :: r, vs, P, h, x, hx => by
    obtain ⟨v, vr, e1, e2, h2⟩ := h
    exact RepAV.held h2 x hx
  | .mv i :: r, vs, P, h, x, hx => by
    obtain ⟨v, vr, e1, e2, h2⟩ := h
    exact RepAV.held h2 x hx
def One (p : Addr) : Fp := fun x => x = p
theorem Ext.plus {F F1 H H1 H2 : Hp} {P Q : Fp} {p : Addr} (e : Ext F F1 H H1 P Q) (hp : H1 p = none) (e2 : Ext F F1 H H2 P Q) : Ext F F1 H H2 P (Uni (One p) Q) := by
  refine ⟨e2.same, e2.kept, fun x h => h.elim (fun z => ?_) (e2.own x), e2.frz⟩
  by_cases hP : P x
  · exact .inl hP
  · cases q : H x with
    | none => exact .inr rfl
    | some o =>
      have := e.kept x o q hP
      have z : x = p := z
      rw [z, hp] at this; cases this
theorem made_ok {Z : L2.St → Nat → Hp → Prop} {g : Callee} {c : Nat} {cl : Cl} {avs : List AV} {vs : List V} {F1 H1 : Hp} {Pd Pa : Fp} {kp : Bool} {Q : VK} {E : XK} {x dx : Addr} (hc : S.cls c = some cl) (ok : OkA S F H P σ avs a vs F1 H1 Pd Pa)
    (o : Out S (Z σ) F H P σ (KV S F H P σ ⟨true, kp, none⟩ Q) (made g c avs a)) (hk : kp = true → Same H H1) (hE : ∀ c H', Z σ c H' → E (S.exn c) none H') (hx : H1 x = none) (hd : H1 dx = none) (hn : dx ≠ x) :
    spA S [0] g (.ref x :: vs) (upd (upd H1 dx (.own x)) x (.ins cl.addr dx [])) (fun v H2 => v = .non ∧ Q (.ref x) H2) E := by
  unfold made at o
  cases ed : avDs a avs with
  | none => rw [ed] at o; exact o.elim
  | some ds =>
    rw [ed] at o
    simp only at o
    split at o
    case isFalse => exact o.elim
    rename_i hm
    have hm : mvs avs = [] := by simpa using hm
    obtain ⟨H2, rfl⟩ : ∃ H2, H2 = upd (upd H1 dx (.own x)) x (.ins cl.addr dx []) := ⟨_, rfl⟩
    have up : Same H1 (upd (upd H1 dx (.own x)) x (.ins cl.addr dx [])) := fun y q e => by
      rw [upd_ne (ne_of_none e hx), upd_ne (ne_of_none e hd)]; exact e
    have ok2 := ok.up up ok.rep.held
    have hxi : upd (upd H1 dx (.own x)) x (.ins cl.addr dx []) x = some (.ins cl.addr dx []) := upd_same
    revert ok2 hxi up
    generalize upd (upd H1 dx (.own x)) x (.ins cl.addr dx []) = H2
    intro up ok2 hxi
    have hF1x : F1 x = none := ok.sr.sub.free hx
    have nPa : ¬ Pa x := fun z => by
      obtain ⟨q, e⟩ := ok.sr.rep.held x z
      rw [hx] at e; cases e
    have nPd : ¬ Pd x := fun z => by
      obtain ⟨q, e⟩ := ok.rep.held x z
      rw [hx] at e; cases e
    have main : ∀ R : Fp, (∀ y, Pd y → R y) → (∀ y, R y → Uni Pd Pa y) → (∀ i ∈ bors avs, ∀ d v P1, rd a i = some d → Rep S F1 H2 d v P1 → (∀ y, P1 y → Pa y) → ∀ y, P1 y → R y) →
        (∀ d self, g (.ins true c [] :: ds) = .ok d [self] → (∀ y, R y → ¬ Pa y) ∨ noL self = true) → (∀ k self, g (.ins true c [] :: ds) = .rz k [self] → (∀ y, R y → ¬ Pa y) ∨ noL self = true) →
        spA S [0] g (.ref x :: vs) H2 (fun v H2 => v = .non ∧ Q (.ref x) H2) E := fun R hR1 hR2 hR3 hn1 hn2 => by
      have hR : ∀ y, R y → F1 y = none := fun y h => (hR2 y h).elim (ok2.fr y) (ok2.sr.fr y)
      have nR : ¬ R x := fun z => (hR2 x z).elim nPd nPa
      have sF := take_same (H := H2) hR
      have rb : ∀ i ∈ bors avs, ∀ d v, rd a i = some d → σ[i]? = some (some v) → Rep S (take F1 H2 R) H2 (frz d) v Emp := fun i hi d v e1 e2 => by
        obtain ⟨v', P1, P2, q1, q2, di, r, _, _⟩ := ok2.sr.rep.focus (rd_some e1)
        rw [e2] at q1; cases q1
        exact r.frz sF d fun y hy => take_in (hR3 i hi d v P1 e1 r (fun y hy => by rw [q2]; exact .inl hy) y hy)
      have reps := av_reps (ms := []) (vs0 := []) (Pm := Emp) (Fc := take F1 H2 R) sF ok2.rep ed (by rw [hm]; rfl) (by rw [hm]; rfl) (by simp only [Reps]; exact ⟨trivial, trivial⟩) (fun y hy => take_in (hR1 y hy)) rb
      have fx : take F1 H2 R x = none := by rw [take_out nR]; exact hF1x
      refine ⟨take F1 H2 R, .ins true c [] :: ds, Uni (Uni (One x) Emp) Emp, ?_, ?_, take_sub ok2.sr.sub, ?_⟩
      · simp only [Reps]
        refine ⟨.ref x, vs, Uni (One x) Emp, Emp, rfl, rfl, dis_emp, ?_, reps⟩
        simp only [Rep]
        refine ⟨x, cl, dx, [], rfl, hc, Nat.zero_le _, ?_⟩
        rw [if_pos trivial]
        exact ⟨by rw [hxi]; simp, .inl rfl, Emp, fun z => z, rfl, by simp only [Reps]; exact ⟨trivial, trivial⟩⟩
      · intro y hy
        rw [uni_emp, uni_emp] at hy
        have hy : y = x := hy
        rw [hy]; exact fx
      · rw [uni_emp, uni_emp]
        have dxa : Dis (One x) Pa := fun y h1 h2 => by
          have h1 : y = x := h1
          rw [h1] at h2; exact nPa h2
        have fr0 : ∀ y, Uni (One x) Pa y → F1 y = none := fun y h => h.elim (fun z => by have z : y = x := z; rw [z]; exact hF1x) (ok2.sr.fr y)
        have ex0 : Ext F F1 H H2 P (Uni Pd (Uni (One x) Pa)) := (ok.ext2.plus hx ok2.ext2).eqP (uni_left_comm _ _ _)
        have sH : ∀ {H' : Hp} {F' : Hp} {N : Fp}, Ext (take F1 H2 R) F' H2 H' (One x) N → Same H1 H' := fun e y q h => e.kept y q (up y q h) fun z => by
          have z : y = x := z
          rw [z, hx] at h; cases h
        cases eg : g (.ins true c [] :: ds) with
        | bad => rw [eg] at o; exact o.elim
        | ok d ms =>
          rw [eg] at o
          match d, ms, o, eg with
          | .non, [self], o, eg =>
            simp only at o
            split at o
            case isFalse => exact o.elim
            intro v ws F' H' Pd' Pm' sw rd' rms dd nf sub' ex
            obtain ⟨rfl, rfl⟩ := rep_non.mp rd'
            obtain ⟨F2, cm⟩ := came (b := a) (σ := σ) (R := R) ok2.sr.rep ok2.sr.sub fr0 hR dxa ex nf sub'
            obtain ⟨w, r0, rfl, ew, r0e⟩ := sw
            cases r0e
            have : w = .ref x := by simpa using ew.symm
            subst this
            simp only [Reps] at rms
            obtain ⟨w, r1, Q1, Q2, e1, rfl, dq, rs, r1e, rfl⟩ := rms
            cases e1
            have rs2 : Rep S F2 H' self (.ref x) Q1 := by
              rcases hn1 .non self eg with h | h
              · rw [cm.lent h]; exact rs
              · exact rs.noL cm.tup self h
            have exx := ex0.trans (cm.ext Pd hR2)
            rw [emp_uni, uni_emp] at exx
            have cfr : ∀ y, Uni Q1 Pa y → F2 y = none := fun y h => cm.fr y (h.elim (fun z => .inl (.inr (.inl z))) .inr)
            have cdi : Dis Q1 Pa := fun y h1 h2 => cm.dis y (.inr (.inl h1)) h2
            refine ⟨rfl, o _ F2 H' Q1 Pa ⟨rs2, ⟨cm.rep, fun y h => cfr y (.inr h), cm.sub⟩, exx.less fun y h => .inr h, fun _ => exx, fun _ => cdi, fun _ y h => cfr y (.inl h), fun h => (hk h).trans (sH ex), fun i h => nomatch h⟩⟩
        | rz k ms =>
          rw [eg] at o
          match ms, o, eg with
          | [self], o, eg =>
            simp only at o
            split at o
            case isFalse => exact o.elim
            intro ws F' H' Pm' sw rms nf sub' ex
            obtain ⟨F2, cm⟩ := came (b := a) (σ := σ) (R := R) ok2.sr.rep ok2.sr.sub fr0 hR dxa ex nf sub'
            have exx := ex0.trans (cm.ext Pd hR2)
            exact hE _ _ (o F2 H' Pa ⟨cm.rep, fun y h => cm.fr y (.inr h), cm.sub⟩ (exx.less fun y h => .inr h))
    by_cases hl : lent avs a = true
    · refine main Pd (fun y h => h) (fun y h => .inl h) (fun i hi d v P1 e r _ y hy => ?_) (fun d self _ => .inl fun y h1 h2 => ok.dis y h1 h2) fun k self _ => .inl fun y h1 h2 => ok.dis y h1 h2
      have := r.still d (lent_still hl i hi d e)
      rw [this] at hy; exact hy.elim
    · refine main (Uni Pd Pa) (fun y h => .inl h) (fun y h => h) (fun i hi d v P1 e r hs y hy => .inr (hs y hy)) (fun d self eg => ?_) fun k self eg => ?_
      · rw [eg] at o
        cases d <;> try exact o.elim
        simp only [hl, Bool.false_or] at o
        split at o
        · rename_i h; exact .inr h
        · exact o.elim
      · rw [eg] at o
        simp only [hl, Bool.false_or] at o
        split at o
        · rename_i h; exact .inr h
        · exact o.elim
section
variable {X : Cx} {G : Env0A} {W : Nat} {Wd : WX}
theorem c_make {ci fi : Nat} {g : Callee} {cl : Cl} {as : MAs} {k : Nat} {f : Addr} {fd : FuncData} {ps : List Str} {x : Str} {p pos : Pos} {es : List Expr} {v : Bool} (hG : G fi = some g) (hc : S.cls ci = some cl) (tk : Takes X Wd) (M : Mk X.K cl.addr f)
    (Fn : FnOk X.prog X.w X.K X.mg X.base (L2.CX X.prog X.w) k f fd ps (spA S [0] g)) (hr : Room (k + 1) X.A) (hg : Gl X x) (hm : X.mg x = some (.ref cl.addr)) (hb : Binds X.K fd ps [])
    (hdb : (x == ("__debug__" : Str)) = false) (hs : es.all noStar = true) (hz : es = [] → as = .nil) (ha : PA X es (tAVs S (ZW S Wd) G W as)) : PE X (.Call (.Name x p) es [] pos) (tE S (ZW S Wd) G W v (.make ci fi as)) := by
  refine (pe_makeA tk M Fn hr hg hm hb ha hdb hs fun h σ H Q q => by rw [hz h] at q; exact tAVs_nil q).weak fun σ H Q h => ?_
  obtain ⟨F, P, a, sr, o⟩ := h
  simp only [ev, hG] at o
  refine ⟨F, P, a, sr, o.bind.imp fun avs a1 e1 o1 vs F1 H1 Pd Pa ok sm => fun y dx hy hd hn => ?_⟩
  refine made_ok (Z := ZW S Wd) (kp := pureAs as) hc ok (by simpa [atE, rootOf, slotOf, pureE] using o1) (fun h => sm (pureAs_mv h).2) (fun c H' z => z) hy hd hn
end
end Ab
namespace Ab
open PySem L2
open Classical
variable {S : Sig} {Z : L2.St → Nat → Hp → Prop} {F F' H H' : Hp} {P : Fp} {σ : L2.St} {a a' : SA}

section
variable {X : Cx} {tg : Expr}
/-- what is walked: a list or a tuple -/
def iSeq (K : PySem.W.Frag) (tl : TE) : TI := fun σ H R => tl σ H fun x H1 => ∃ p, x = .ref p ∧ (((∃ xs, SqL K H1 p xs) ∧ R (Itl K p) H1) ∨ ((∃ xs, SqT K H1 p xs) ∧ R (Itt K p) H1))
theorem pi_seq {l : Expr} {tl : TE} (hl : PE X l tl) : PI X tg l (iSeq X.K tl) := by
  refine ⟨fun pins s σ H R I h => thn (hl.run pins s σ H _ I h) ?_⟩
  rintro v s1 ⟨x, H1, I1, r1, p, rfl, q⟩
  cases r1
  have grow : ∀ {o : Obj}, Inv X pins σ H1 { s1 with heap := s1.heap.push o } := fun {o} => I1.kept (t' := s1.toks) fun b u e => Heap.get?_push_of_some _ e
  have young : ∀ b ∈ [s1.heap.objs.size], FpOk X pins H1 b := fun b hb => by
    rw [List.mem_singleton] at hb
    rw [hb]; exact I1.fpOk (Nat.le_refl _) (I1.hok.fresh (Nat.le_refl _))
  rcases q with ⟨⟨xs, hq⟩, q⟩ | ⟨⟨xs, hq⟩, q⟩
  · obtain ⟨its, rv, pl, hz⟩ := I1.list hq
    exact wpAny_pyIter_list pl.isList ⟨_, _, _, _, H1, rfl, grow, turn_list p _, ⟨_, Heap.get?_push_size _ rfl, rfl, rfl⟩, young, q⟩
  · obtain ⟨its, rv, pl, hz⟩ := I1.tuple hq
    exact wpAny_pyIter_tuple (show s1.heap.IsTuple p its.toArray from pl) ⟨_, _, _, _, H1, rfl, grow, turn_tuple p _, ⟨_, Heap.get?_push_size _ rfl, rfl, rfl⟩, young, q⟩
theorem _root_.L2.PI.weak {e : Expr} {t t' : TI} (h : PI X tg e t) (w : ∀ σ H R, t' σ H R → t σ H R) : PI X tg e t' :=
  ⟨fun pins s σ H R I q => h.run pins s σ H R I (w σ H R q)⟩
end
/-- the machine's walk goes with the evaluator's -/
def ItOk (S : Sig) (F : Hp) (σ : L2.St) : It → L2.It → Prop
  | .vals ds, J => ∃ vs, (∀ H, Reps S F H ds vs Emp) ∧ ∀ i H', Same F H' → (i < vs.length → J.go i H') ∧ (vs.length ≤ i → J.stop i H') ∧ ∀ x H3, i < vs.length → J.yld i H' x H3 → H3 = H' ∧ vs[i]? = some x
  | .live j, J => ∃ p, σ[j]? = some (some (.ref p)) ∧ ∀ i H' xs, H' p = some (.lst xs) → (i < xs.length → J.go i H') ∧ (xs.length ≤ i → J.stop i H') ∧ ∀ x H3, i < xs.length → J.yld i H' x H3 → H3 = H' ∧ xs[i]? = some x
def tI (S : Sig) (Z : L2.St → Nat → Hp → Prop) (kp : Bool) (f : SA → Er It) : TI := fun σ H R => ∃ F P a, SR S F H a σ P ∧
  Out S (Z σ) F H P σ (fun it a' => ∀ J F' H' Pa, SR S F' H' a' σ Pa → Ext F F' H H' P Pa → (kp = true → Same H H') → ItOk S F' σ it J → R J H') (f a)
theorem Reps.any {ds : List D} {vs : List V} (r : Reps S F H ds vs Emp) : ∀ H', Reps S F H' ds vs Emp := fun H' => Reps.keep (fun _ _ z => z) ds r fun x z => z.elim
theorem itl_ok {K : PySem.W.Frag} {p : Addr} {vs : List V} {ds : List D} {σ : L2.St} (e : F p = some (.lst vs)) (r : Reps S F H ds vs Emp) : ItOk S F σ (.vals ds) (Itl K p) :=
  ⟨vs, r.any, fun i H' sF => ⟨fun h => ⟨vs, vs[i], SqL.of (sF _ _ e), by simp [h]⟩, fun h => ⟨vs, SqL.of (sF _ _ e), h⟩, fun x H3 h y => ⟨y.1, y.2 vs (SqL.of (sF _ _ e))⟩⟩⟩
theorem itt_ok {K : PySem.W.Frag} {p : Addr} {vs : List V} {ds : List D} {σ : L2.St} (e : F p = some (.tup vs)) (r : Reps S F H ds vs Emp) : ItOk S F σ (.vals ds) (Itt K p) :=
  ⟨vs, r.any, fun i H' sF => ⟨fun h => ⟨vs, vs[i], SqT.of (sF _ _ e), by simp [h]⟩, fun h => ⟨vs, SqT.of (sF _ _ e), h⟩, fun x H3 h y => ⟨y.1, y.2 vs (SqT.of (sF _ _ e))⟩⟩⟩
/-- a shared value that is walked -/
theorem seq_ok {d : D} {v : V} {ds : List D} {K : PySem.W.Frag} {R : L2.It → Hp → Prop} (r : Rep S F H (frz d) v Emp) (sub : Same F H) (hi : itemsOf (frz d) = some ds) (q : ∀ J, ItOk S F σ (.vals ds) J → R J H) :
    ∃ p, v = .ref p ∧ (((∃ xs, SqL K H p xs) ∧ R (Itl K p) H) ∨ ((∃ xs, SqT K H p xs) ∧ R (Itt K p) H)) := by
  cases d <;> simp only [frz, itemsOf, reduceCtorEq, Option.some.injEq] at hi r
  · subst hi
    simp only [Rep] at r
    obtain ⟨_, p, vs, rfl, e, rr⟩ := r
    exact ⟨p, rfl, .inr ⟨⟨vs, SqT.of (sub _ _ e)⟩, q _ (itt_ok e rr)⟩⟩
  · subst hi
    simp only [Rep] at r
    obtain ⟨p, vs, rfl, rr⟩ := r
    rw [if_neg (by decide)] at rr
    exact ⟨p, rfl, .inl ⟨⟨vs, SqL.of (sub _ _ rr.2.1)⟩, q _ (itl_ok rr.2.1 rr.2.2)⟩⟩
section
variable {X : Cx} {tg : Expr} {G : Env0A} {W : Nat}
abbrev tIt (S : Sig) (Z : L2.St → Nat → Hp → Prop) (G : Env0A) (W : Nat) (it : MI) : TI := tI S Z (pureI it) (evI G W it)
theorem walk_frz {e : ME} {H : Hp} {R : L2.It → Hp → Prop} {σ : L2.St} {K : PySem.W.Frag} {F : Hp} {P : Fp} {a : SA} (sr : SR S F H a σ P)
    (o : Out S (Z σ) F H P σ (fun it a' => ∀ J F' H' Pa, SR S F' H' a' σ Pa → Ext F F' H H' P Pa → (pureE e = true → Same H H') → ItOk S F' σ it J → R J H') ((ev G W false e a).bind fun d s1 => Er.of ((itemsOf (frz d)).map It.vals) s1)) :
    tE S Z G W false e σ H fun x H1 => ∃ p, x = .ref p ∧ (((∃ xs, SqL K H1 p xs) ∧ R (Itl K p) H1) ∨ ((∃ xs, SqT K H1 p xs) ∧ R (Itt K p) H1)) := by
  refine ⟨F, P, a, sr, o.bind.imp fun d a1 e1 o1 v1 F1 H1 P1 Pa1 ok1 => ?_⟩
  obtain ⟨it, ei, q⟩ := o1.of
  simp only [Option.map_eq_some_iff] at ei
  obtain ⟨ds, ei, rfl⟩ := ei
  obtain ⟨s1, s2, s3⟩ := shares (R := P1) ok1.sr (ok1.dis rfl) (ok1.fr rfl)
  have r : Rep S (take F1 H1 P1) H1 (frz d) v1 Emp := ok1.rep.frz s2 d fun x hx => take_in hx
  exact seq_ok r s1.sub ei fun J hJ => q J _ H1 Pa1 s1 ((ok1.ext2 rfl).trans s3) (fun h => ok1.same h) hJ
theorem c_of {e : Expr} {me : ME} (hs : slotOf me = none) (he : PE X e (tE S Z G W false me)) : PI X tg e (tIt S Z G W (.of me)) := by
  refine (pi_seq he).weak fun σ H R h => ?_
  obtain ⟨F, P, a, sr, o⟩ := h
  simp only [evI, hs] at o
  exact walk_frz sr o
theorem c_ofS {i : Nat} {x : Str} {pos : Pos} (hN : X.N[i]? = some x) (hv : Vis X.env.scope x) (hd : (x == ("__debug__" : Str)) = false) (hcd : (x == ("__classdict__" : Str)) = false) : PI X tg (.Name x pos) (tIt S Z G W (.of (.slot i))) := by
  refine (pi_seq (pe_var hN hv hd hcd)).weak fun σ H R h => ?_
  obtain ⟨F, P, a, sr, o⟩ := h
  simp only [evI, slotOf, Option.bind_some] at o
  split at o
  · rename_i j ds hj hds
    cases hj
    split at o
    · rename_i hst
      obtain ⟨v, P1, P2, e1, e2, di, r, h2, _⟩ := sr.rep.focus (rd_some hds)
      simp only [Rep] at r
      obtain ⟨p, vs, rfl, r⟩ := r
      rw [if_pos trivial] at r
      refine ⟨_, e1, p, rfl, .inl ⟨⟨vs, SqL.of r.1⟩, o _ F H P sr .refl (fun _ _ _ z => z) ⟨p, e1, fun k H' xs e => ⟨fun h => ⟨xs, xs[k], SqL.of e, by simp [h]⟩, fun h => ⟨xs, SqL.of e, h⟩, fun x H3 h y => ⟨y.1, y.2 xs (SqL.of e)⟩⟩⟩⟩⟩
    · exact slot_rd (walk_frz sr o)
  · exact slot_rd (walk_frz sr o)
theorem rangeN_map (lo : Int) (n : Nat) : rangeN lo n = ((List.range n).map fun (i : Nat) => lo + (i : Int)).map D.int := by simp [rangeN]
theorem c_r1 {e : Expr} {me : ME} {p pos : Pos} (hg : Gl X "range") (hm : X.mg "range" = none) (hst : starEach [e] X.env = [(false, eval e X.env)]) (he : PE X e (tE S Z G W true me)) : PI X tg (.Call (.Name "range" p) [e] [] pos) (tIt S Z G W (.r1 me)) := by
  refine (pi_range1 hg hm (pa_cons he pa_nil hst) hst).weak fun σ H R h => ?_
  obtain ⟨F, P, a, sr, o⟩ := h
  simp only [evI] at o
  refine ⟨F, P, a, sr, o.bind.imp fun d a1 e1 o1 v1 F1 H1 P1 Pa1 ok1 => ?_⟩
  cases d <;> try exact o1.elim
  rename_i j
  simp only at o1
  split at o1
  · rename_i hj
    obtain ⟨rfl, _⟩ := rep_int.mp ok1.rep
    have hj := inR_iff hj
    refine ⟨j, rfl, hj.1, hj.2, o1 _ F1 H1 Pa1 ok1.sr ok1.ext (fun h => ok1.same h) ⟨_, fun H => by rw [rangeN_map]; exact Reps.ofInts _, fun i H' sF => ?_⟩⟩
    simp only [List.length_map, List.length_range]
    exact ⟨fun h => h, fun h => h, fun x H3 h y => ⟨y.1, by rw [y.2]; simp [h]⟩⟩
  · exact o1.elim
end
end Ab
namespace Ab
open PySem L2
open Classical
variable {S : Sig} {F F' H H' : Hp} {P : Fp} {σ : L2.St} {a a' : SA}

/-! ### steps of a comprehension -/
theorem noRz_ok {α : Type} {x : Er α} {y : α} {s : SA} (h : x.noRz = .ok y s) : x = .ok y s := by
  cases x <;> simp [Er.noRz] at h ⊢; exact h
theorem Er.bind_ok {α β : Type} {x : Er α} {f : α → SA → Er β} {y : β} {s : SA} (h : x.bind f = .ok y s) : ∃ z s1, x = .ok z s1 ∧ f z s1 = .ok y s := by
  cases x with
  | ok z s1 => exact ⟨z, s1, rfl, h⟩
  | rz c s1 => cases h
  | bad => cases h
theorem Er.bind_rz {α β : Type} {x : Er α} {f : α → SA → Er β} {c : Nat} {s : SA} (h : x.bind f = .rz c s) : x = .rz c s ∨ ∃ z s1, x = .ok z s1 ∧ f z s1 = .rz c s := by
  cases x with
  | ok z s1 => exact .inr ⟨z, s1, rfl, h⟩
  | rz k s1 => exact .inl (by simpa [Er.bind] using h)
  | bad => cases h
theorem noRz_rz {α : Type} {x : Er α} {c : Nat} {s : SA} (h : x.noRz = .rz c s) : False := by
  cases x <;> simp [Er.noRz] at h
theorem compL_norz {f : SA → Er Bool} {g : SA → Er D} {own : Nat} : ∀ (ds : List D) (s : SA) (c : Nat) (s' : SA), compL (fun s => (f s).noRz) (fun s => (g s).noRz) own ds s ≠ .rz c s'
  | [], s, c, s', h => by simp [compL] at h
  | x :: xs, s, c, s', h => by
    simp only [compL] at h
    rcases Er.bind_rz h with h | ⟨b, s1, e1, h⟩
    · exact noRz_rz h
    · split at h
      · rcases Er.bind_rz h with h | ⟨y, s2, e2, h⟩
        · exact noRz_rz h
        · rcases Er.bind_rz h with h | ⟨ys, s3, e3, h⟩
          · exact compL_norz xs _ _ _ h
          · cases h
      · exact compL_norz xs _ _ _ h
theorem compL_cons {f : SA → Er Bool} {g : SA → Er D} {own : Nat} {x : D} {xs ys : List D} {s sE : SA} (h : compL (fun s => (f s).noRz) (fun s => (g s).noRz) own (x :: xs) s = .ok ys sE) :
    ∃ b s1, f (s.set own (some x)) = .ok b s1 ∧ ((b = true ∧ ∃ y s2 ys2, g s1 = .ok y s2 ∧ compL (fun s => (f s).noRz) (fun s => (g s).noRz) own xs (s2.set own none) = .ok ys2 sE ∧ ys = y :: ys2) ∨ (b = false ∧ compL (fun s => (f s).noRz) (fun s => (g s).noRz) own xs (s1.set own none) = .ok ys sE)) := by
  simp only [compL] at h
  obtain ⟨b, s1, e1, h⟩ := Er.bind_ok h
  refine ⟨b, s1, noRz_ok e1, ?_⟩
  cases b with
  | true =>
    rw [if_pos rfl] at h
    obtain ⟨y, s2, e2, h⟩ := Er.bind_ok h
    obtain ⟨ys2, s3, e3, h⟩ := Er.bind_ok h
    cases h
    exact .inl ⟨rfl, y, s2, ys2, noRz_ok e2, e3, rfl⟩
  | false => exact .inr ⟨rfl, by simpa using h⟩
theorem compV_norz {W : Nat} {f : SA → Er Bool} {g : SA → Er D} {own i : Nat} : ∀ (n k : Nat) (s : SA) (c : Nat) (s' : SA), compV W (fun s => (f s).noRz) (fun s => (g s).noRz) own i n k s ≠ .rz c s'
  | 0, k, s, c, s', h => by simp [compV] at h
  | n + 1, k, s, c, s', h => by
    simp only [compV] at h
    split at h
    case h_2 => cases h
    split at h
    · cases h
    split at h
    case isFalse => cases h
    rcases Er.bind_rz h with h | ⟨b, s1, e1, h⟩
    · exact noRz_rz h
    · split at h
      · rcases Er.bind_rz h with h | ⟨y, s2, e2, h⟩
        · exact noRz_rz h
        · rcases Er.bind_rz h with h | ⟨ys, s3, e3, h⟩
          · exact compV_norz n _ _ _ _ h
          · cases h
      · exact compV_norz n _ _ _ _ h
theorem compV_step {W : Nat} {f : SA → Er Bool} {g : SA → Er D} {own i n k : Nat} {ys : List D} {s sE : SA} (h : compV W (fun s => (f s).noRz) (fun s => (g s).noRz) own i (n + 1) k s = .ok ys sE) :
    ∃ m ds, rd s i = some (.lst m ds) ∧ ((ds[k]? = none ∧ ys = [] ∧ sE = s) ∨ ∃ x, ds[k]? = some x ∧ still x = true ∧ own ≠ i ∧ ds.length ≤ sizeLine ∧
      ∃ b s1, f (s.set own (some x)) = .ok b s1 ∧ ((b = true ∧ ∃ y s2 ys2, g s1 = .ok y s2 ∧ compV W (fun s => (f s).noRz) (fun s => (g s).noRz) own i n (k + 1) (s2.set own none) = .ok ys2 sE ∧ ys = y :: ys2) ∨ (b = false ∧ compV W (fun s => (f s).noRz) (fun s => (g s).noRz) own i n (k + 1) (s1.set own none) = .ok ys sE))) := by
  simp only [compV] at h
  split at h
  case h_2 => cases h
  rename_i m ds er
  refine ⟨m, ds, er, ?_⟩
  split at h
  · rename_i ek
    cases h
    exact .inl ⟨ek, rfl, rfl⟩
  rename_i x ek
  split at h
  case isFalse => cases h
  rename_i hc
  simp only [Bool.and_eq_true, Bool.not_eq_true', beq_eq_false_iff_ne, decide_eq_true_eq] at hc
  refine .inr ⟨x, ek, hc.1.1, hc.1.2, hc.2, ?_⟩
  obtain ⟨b, s1, e1, h⟩ := Er.bind_ok h
  refine ⟨b, s1, noRz_ok e1, ?_⟩
  cases b with
  | true =>
    rw [if_pos rfl] at h
    obtain ⟨y, s2, e2, h⟩ := Er.bind_ok h
    obtain ⟨ys2, s3, e3, h⟩ := Er.bind_ok h
    cases h
    exact .inl ⟨rfl, y, s2, ys2, noRz_ok e2, e3, rfl⟩
  | false => exact .inr ⟨rfl, by simpa using h⟩

/-! ### one turn -/
theorem Reps.snoc : ∀ {ds : List D} {vs : List V} {Pd Pe : Fp} {d : D} {v : V}, Reps S F H ds vs Pd → Rep S F H d v Pe → Dis Pd Pe → Reps S F H (ds ++ [d]) (vs ++ [v]) (Uni Pd Pe)
  | [], vs, Pd, Pe, d, v, r, re, di => by
    simp only [Reps] at r
    obtain ⟨rfl, rfl⟩ := r
    simp only [List.nil_append, Reps]
    exact ⟨v, [], Pe, Emp, rfl, by rw [emp_uni, uni_emp], dis_emp, re, rfl, rfl⟩
  | d0 :: ds, vs, Pd, Pe, d, v, r, re, di => by
    simp only [Reps] at r
    obtain ⟨w, wr, P1, P2, rfl, rfl, d12, r1, r2⟩ := r
    simp only [List.cons_append, Reps]
    exact ⟨w, wr ++ [v], P1, Uni P2 Pe, rfl, uni_assoc _ _ _, Dis.uni' d12 fun x h1 h2 => di x (.inl h1) h2, r1, Reps.snoc r2 re fun x h1 h2 => di x (.inr h1) h2⟩
theorem Ext.updIn {F H : Hp} {Q : Fp} {p : Addr} {o : HO} (h : Q p) : Ext F F H (upd H p o) Q Q :=
  ⟨fun _ _ z => z, fun x q e n => by rw [upd_ne (show x ≠ p from fun z => n (by rw [z]; exact h))]; exact e, fun x z => .inl z, fun x q z => .inl ⟨q, z⟩⟩
/-- between two turns -/
structure CompI (S : Sig) (F1 H1 : Hp) (P1 : Fp) (p : Addr) (own : Nat) (σ0 : L2.St) (kq : Bool) (F : Hp) (P : Fp) (sa : SA) (ys : List D) (acc : List V) (Pc : Fp) (H : Hp) : Prop where
  sr : SR S F H sa σ0 P
  no : rd sa own = none
  at_ : H p = some (.lst acc)
  acc : Reps S F H ys acc Pc
  nP : ¬ P p
  nC : ¬ Pc p
  di : Dis Pc P
  fr : ∀ x, Pc x → F x = none
  nF : F p = none
  ext : Ext F1 F H1 H P1 (Uni (One p) (Uni Pc P))
  pn : H1 p = none
  sm : kq = true → Same H1 H
theorem rd_set_none {s : SA} {i : Nat} : rd (s.set i none) i = none := by
  unfold rd
  by_cases h : i < s.length
  · rw [List.getElem?_set_self h]; rfl
  · rw [List.getElem?_eq_none (by rw [List.length_set]; omega)]; rfl
theorem rd_none {s : SA} {i : Nat} (h : rd s i = none) : ∀ d, s[i]? ≠ some (some d) := fun d e => by rw [rd_of e] at h; cases h
theorem put_any {sa : SA} {σ : L2.St} {own : Nat} {d : D} {v : V} (h : RepS S F H sa σ P) (no : rd sa own = none) (r : Rep S F H d v Emp) : RepS S F H (sa.set own (some d)) (σ.set own (some v)) P := by
  by_cases hl : own < sa.length
  · have e : sa[own]? = some none := by
      rw [List.getElem?_eq_getElem hl]
      cases q : sa[own] with
      | none => rfl
      | some d' => exact (rd_none no d' (by rw [List.getElem?_eq_getElem hl, q])).elim
    have := h.put hl e r emp_dis
    rwa [emp_uni] at this
  · have hl' : ¬ own < σ.length := by rw [h.len]; exact hl
    rw [List.set_eq_of_length_le (by omega), List.set_eq_of_length_le (by omega)]
    exact h
/-- a slot's value forgotten, in both -/
theorem drop_both {sa : SA} {σ : L2.St} {own : Nat} {o : Option V} (sr : SR S F H sa σ P) : ∃ P2, SR S F H (sa.set own none) (σ.set own o) P2 ∧ ∀ x, P2 x → P x := by
  obtain ⟨P2, r, sb⟩ := sr.rep.drop own
  exact ⟨P2, ⟨r.other (rd_none rd_set_none), fun x h => sr.fr x (sb x h), sr.sub⟩, sb⟩
section
variable {F1 H1 : Hp} {P1 : Fp} {p : Addr} {own : Nat} {σ0 : L2.St} {sa : SA} {ys : List D} {acc : List V} {Pc : Fp} {kq : Bool}
theorem CompI.held (I : CompI S F1 H1 P1 p own σ0 kq F P sa ys acc Pc H) : ∀ x, Uni (One p) Pc x → ∃ o, H x = some o := fun x h => h.elim (fun z => by have z : x = p := z; rw [z]; exact ⟨_, I.at_⟩) (Reps.held ys I.acc x)
theorem CompI.apart (I : CompI S F1 H1 P1 p own σ0 kq F P sa ys acc Pc H) : Dis (Uni (One p) Pc) P := Dis.uni (fun x h1 h2 => by have h1 : x = p := h1; rw [h1] at h2; exact I.nP h2) I.di
/-- the test was false -/
theorem CompI.skip {d : D} {v : V} {F' H' : Hp} {Pa : Fp} {s1 : SA} {o2 : Option V} (I : CompI S F1 H1 P1 p own σ0 kq F P sa ys acc Pc H) (sr : SR S F' H' s1 (σ0.set own o2) Pa) (ex : Ext F F' H H' P Pa) (hs : kq = true → Same H H') (e0 : σ0.set own none = σ0) :
    ∃ P2, CompI S F1 H1 P1 p own σ0 kq F' P2 (s1.set own none) ys acc Pc H' := by
  obtain ⟨P2, sr2, sb⟩ := drop_both (own := own) (o := none) sr
  rw [List.set_set, e0] at sr2
  have dis := ex.dis I.apart I.held
  refine ⟨P2, sr2, rd_set_none, ex.kept _ _ I.at_ I.nP, ex.asides I.acc I.di, fun z => dis p (.inl rfl) (sb p z), I.nC, fun x h1 h2 => dis x (.inr h1) (sb x h2), fun x h => ex.unf I.di (Reps.held ys I.acc) (Reps.notup ys I.acc) I.fr x h, ?_, ?_, I.pn, fun h => (I.sm h).trans (hs h)⟩
  · exact ex.unf (R := One p) (fun x h1 h2 => by have h1 : x = p := h1; rw [h1] at h2; exact I.nP h2) (fun x h => by have h : x = p := h; rw [h]; exact ⟨_, I.at_⟩) (fun x h vs z => by have h : x = p := h; rw [h, I.at_] at z; cases z) (fun x h => by have h : x = p := h; rw [h]; exact I.nF) p rfl
  · have e := (ex.frame (R := Uni (One p) Pc))
    rw [uni_comm P, uni_assoc, uni_comm Pa, uni_assoc] at e
    exact (I.ext.trans e).less fun x h => h.elim .inl fun h => h.elim (fun z => .inr (.inl z)) fun z => .inr (.inr (sb x z))
/-- an element more -/
theorem CompI.more {d : D} {v : V} {F' H' : Hp} {Pd Pa : Fp} {s1 : SA} {t : At} {σ2 : L2.St} {o2 : Option V} (I : CompI S F1 H1 P1 p own σ0 kq F P sa ys acc Pc H) (ok : Ok S F H P σ2 t d s1 v F' H' Pd Pa) (ht : t.tmp = true) (hs : kq = true → Same H H') (e2 : σ2 = σ0.set own o2) (e0 : σ0.set own none = σ0) :
    ∃ P2, CompI S F1 H1 P1 p own σ0 kq F' P2 (s1.set own none) (ys ++ [d]) (acc ++ [v]) (Uni Pc Pd) (upd H' p (.lst (acc ++ [v]))) := by
  subst e2
  obtain ⟨P2, sr2, sb⟩ := drop_both (own := own) (o := none) ok.sr
  rw [List.set_set, e0] at sr2
  have ex := ok.ext2 ht
  have dis := ex.dis I.apart I.held
  have nFp : F' p = none := ok.ext.unf (R := One p) (fun x h1 h2 => by have h1 : x = p := h1; rw [h1] at h2; exact I.nP h2) (fun x h => by have h : x = p := h; rw [h]; exact ⟨_, I.at_⟩) (fun x h vs z => by have h : x = p := h; rw [h, I.at_] at z; cases z) (fun x h => by have h : x = p := h; rw [h]; exact I.nF) p rfl
  have nPd : ¬ Pd p := fun z => dis p (.inl rfl) (.inl z)
  have nP2 : ¬ P2 p := fun z => dis p (.inl rfl) (.inr (sb p z))
  have racc : Reps S F' H' ys acc Pc := ok.ext.asides I.acc I.di
  have dcd : Dis Pc Pd := fun x h1 h2 => dis x (.inr h1) (.inl h2)
  have nCd : ¬ Uni Pc Pd p := fun z => z.elim I.nC nPd
  refine ⟨P2, ⟨sr2.rep.keep (fun _ _ z => z) fun x h => upd_ne fun e => nP2 (e ▸ h), sr2.fr, fun x q e => ?_⟩, rd_set_none, upd_same, Reps.keep (fun _ _ z => z) _ (racc.snoc ok.rep dcd) fun x h => upd_ne fun e => nCd (e ▸ h), nP2, nCd, ?_, ?_, nFp, ?_, I.pn, fun h x q e => by rw [upd_ne (ne_of_none e I.pn)]; exact hs h x q (I.sm h x q e)⟩
  · have : x ≠ p := fun z => by rw [z, nFp] at e; cases e
    rw [upd_ne this]; exact sr2.sub x q e
  · exact Dis.uni (fun x h1 h2 => dis x (.inr h1) (.inr (sb x h2))) fun x h1 h2 => ok.dis ht x h1 (sb x h2)
  · exact fun x h => h.elim (ok.ext.unf I.di (Reps.held ys I.acc) (Reps.notup ys I.acc) I.fr x) (ok.fr ht x)
  · have e := (ex.frame (R := Uni (One p) Pc))
    rw [uni_comm P, uni_assoc, uni_comm (Uni Pd Pa), uni_assoc, ← uni_assoc Pc Pd Pa] at e
    exact ((I.ext.trans e).less fun x h => h.elim .inl fun h => h.elim (fun z => .inr (.inl z)) fun z => .inr (.inr (sb x z))).trans (Ext.updIn (.inl rfl))
end
end Ab
namespace Ab
open PySem L2
open Classical
variable {S : Sig} {Z : L2.St → Nat → Hp → Prop} {F F' H H' : Hp} {P : Fp} {σ : L2.St} {a a' : SA}

abbrev Z0 : L2.St → Nat → Hp → Prop := fun _ _ _ => False
abbrev tTo (S : Sig) (G : Env0A) (W : Nat) (t : MTo) : TT := tAT S Z0 (pureTo t) (evTo G W t)
theorem set_none_self {s : SA} {i : Nat} (h : rd s i = none) : s.set i none = s := by
  apply List.ext_getElem?
  intro j
  by_cases hj : i = j
  · subst hj
    by_cases hl : i < s.length
    · rw [List.getElem?_set_self hl]
      cases q : s[i]? with
      | none => rw [List.getElem?_eq_getElem hl] at q; cases q
      | some o => cases o with
        | none => rfl
        | some d => exact (rd_none h d q).elim
    · rw [List.getElem?_eq_none (by rw [List.length_set]; omega), List.getElem?_eq_none (by omega)]
  · rw [List.getElem?_set_ne hj]
theorem join_none {s : SA} {i : Nat} (h : rd s i = none) : (s[i]?).join = none := h
/-- the own slot's older value set aside, and put back -/
theorem RepS.aside {F1 H1 : Hp} {Pa : Fp} (own : Nat) (h : RepS S F1 H1 a σ Pa) : ∃ Pw Pr, Pa = Uni Pw Pr ∧ Dis Pw Pr ∧ RepS S F1 H1 (a.set own none) σ Pr ∧ (∀ x, Pw x → ∃ o, H1 x = some o) ∧
    ∀ (F' H' : Hp) (P' : Fp) (sa : SA), RepS S F' H' sa σ P' → rd sa own = none → Dis Pw P' → Same F1 F' → (∀ x, Pw x → H' x = H1 x) → RepS S F' H' (sa.set own (a[own]?).join) σ (Uni Pw P') := by
  cases q : rd a own with
  | none =>
    refine ⟨Emp, Pa, (emp_uni _).symm, emp_dis, by rw [set_none_self q]; exact h, fun x z => z.elim, fun F' H' P' sa r no _ _ _ => ?_⟩
    rw [join_none q, set_none_self no, emp_uni]
    exact r
  | some d =>
    obtain ⟨v, P1, P2, e1, e2, di, r, h2, _⟩ := h.focus (rd_some q)
    refine ⟨P1, P2, e2, di, h2, r.held d, fun F' H' P' sa rs no dw sF hk => ?_⟩
    have hl : own < sa.length := by
      rw [← rs.len]
      exact (List.getElem?_eq_some_iff.mp e1).1
    have en : sa[own]? = some none := by
      rw [List.getElem?_eq_getElem hl]
      cases z : sa[own] with
      | none => rfl
      | some d' => exact (rd_none no d' (by rw [List.getElem?_eq_getElem hl, z])).elim
    have : (a[own]?).join = some d := q
    rw [this]
    exact rs.tell en e1 (r.keep sF d hk) dw
theorem lc_ok {G : Env0A} {W : Nat} {own : Nat} {elt : ME} {it : MI} {t : MTo} {v : Bool} {H : Hp} {Q : VK} (h : tE S Z G W v (.comp own elt it t) σ H Q) :
    tLc (tIt S Z G W it) (gName own) (tTo S G W t) (tE S Z0 G W false elt) [own] σ H Q := by
  obtain ⟨F, P, a, sr, o⟩ := h
  simp only [ev] at o
  refine ⟨F, P, a, sr, o.bind.imp fun im a1 e1 o1 J F1 H1 Pa1 sr1 ex1 sm1 hJ p hp => ?_⟩
  obtain ⟨Pw, Pr, eP, dwr, r0, heldw, back⟩ := sr1.rep.aside own
  have e0 : (σ.set own none).set own none = σ.set own none := List.set_set ..
  have nPa : ¬ Pa1 p := fun z => by
    obtain ⟨q, e⟩ := sr1.rep.held p z
    rw [hp] at e; cases e
  have nPr : ¬ Pr p := fun z => nPa (by rw [eP]; exact .inr z)
  have nPw : ¬ Pw p := fun z => nPa (by rw [eP]; exact .inl z)
  have sub0 : Same F1 (upd H1 p (.lst [])) := sr1.sub.trans (same_up hp)
  have start : CompI S F1 H1 Pr p own (σ.set own none) (pureE elt && pureTo t) F1 Pr (a1.set own none) [] [] Emp (upd H1 p (.lst [])) := by
    refine ⟨⟨(r0.other (rd_none rd_set_none)).keep (fun _ _ z => z) fun x hx => upd_ne fun z => nPr (by rw [← z]; exact hx), fun x hx => sr1.fr x (by rw [eP]; exact .inr hx), sub0⟩, rd_set_none, upd_same, by simp only [Reps]; exact ⟨trivial, trivial⟩, nPr, fun z => z, emp_dis, fun x z => z.elim, sr1.sub.free hp, ⟨fun _ _ z => z, fun x q e _ => same_up hp x q e, fun x h => ?_, fun x q e => .inl ⟨q, e⟩⟩, hp, fun _ => same_up hp⟩
    rcases h with h | h | h
    · have h : x = p := h
      rw [h]; exact .inr hp
    · exact h.elim
    · exact .inl h
  -- the end
  have fin : ∀ {ys : List D} {sE : SA} {F2 H2 : Hp} {P2 : Fp} {acc : List V} {Pc : Fp}, CompI S F1 H1 Pr p own (σ.set own none) (pureE elt && pureTo t) F2 P2 sE ys acc Pc H2 →
      KV S F H P σ (atE v (.comp own elt it t)) Q (.lst true ys) (sE.set own (a1[own]?).join) → Q (.ref p) H2 := fun {ys sE F2 H2 P2 acc Pc} I k => by
    have exw := (I.ext.frame (R := Pw))
    rw [uni_comm Pr Pw, ← eP] at exw
    have keepw : ∀ x, Pw x → H2 x = H1 x := fun x hx => by
      obtain ⟨q, e⟩ := heldw x hx
      rw [e]; exact I.ext.kept x q e fun z => dwr x hx z
    have dw : Dis Pw (Uni (One p) (Uni Pc P2)) := I.ext.dis dwr heldw
    have rs : RepS S F2 H2 sE σ P2 := by
      have := I.sr.rep.other (i := own) (o := (σ[own]?).join) (rd_none I.no)
      rw [List.set_set] at this
      have e : σ.set own (σ[own]?).join = σ := by
        apply List.ext_getElem?
        intro j
        by_cases hj : own = j
        · subst hj
          by_cases hl : own < σ.length
          · rw [List.getElem?_set_self hl, List.getElem?_eq_getElem hl]; rfl
          · rw [List.getElem?_eq_none (by rw [List.length_set]; omega), List.getElem?_eq_none (by omega)]
        · rw [List.getElem?_set_ne hj]
      rwa [e] at this
    have bk := back F2 H2 P2 sE rs I.no (fun x h1 h2 => dw x h1 (.inr (.inr h2))) I.ext.same keepw
    have frw : ∀ x, Pw x → F2 x = none := I.ext.unf dwr heldw (fun x hx => sr1.rep.notup x (by rw [eP]; exact .inl hx)) fun x hx => sr1.fr x (by rw [eP]; exact .inl hx)
    have exx := ex1.trans exw
    refine k _ F2 H2 (Uni (One p) Pc) (Uni Pw P2) ⟨?_, ⟨bk, fun x h => h.elim (frw x) (I.sr.fr x), I.sr.sub⟩, exx.less fun x h => h.elim .inr fun z => .inl (.inr (.inr z)), fun _ => exx.less fun x h => ?_, fun _ => ?_, fun _ x h => ?_, fun h => ?_, fun i h => by simp [atE, slotOf] at h⟩
    · simp only [Rep]
      refine ⟨p, acc, rfl, ?_⟩
      rw [if_pos trivial]
      exact ⟨I.at_, .inl rfl, Pc, I.nC, rfl, I.acc⟩
    · rcases h with (h | h) | h | h
      · exact .inl (.inl h)
      · exact .inl (.inr (.inl h))
      · exact .inr h
      · exact .inl (.inr (.inr h))
    · intro x h1 h2
      rcases h2 with h2 | h2
      · exact dw x h2 (h1.elim .inl fun z => .inr (.inl z))
      · rcases h1 with h1 | h1
        · have h1 : x = p := h1
          rw [h1] at h2; exact I.nP h2
        · exact I.di x h1 h2
    · rcases h with h | h
      · have h : x = p := h
        rw [h]; exact I.nF
      · exact I.fr x h
    · have h : (pureE elt && pureI it && pureTo t) = true := by simpa [atE, pureE] using h
      simp only [Bool.and_eq_true] at h
      exact (sm1 h.1.2).trans (I.sm (by simp [h.1.1, h.2]))
  -- one turn
  have turn : ∀ {i : Nat} {F2 H2 : Hp} {P2 : Fp} {sa s1 : SA} {ys1 : List D} {acc : List V} {Pc : Fp} {d : D} {x : V} {b : Bool} {Nx : Hp → Prop}, CompI S F1 H1 Pr p own (σ.set own none) (pureE elt && pureTo t) F2 P2 sa ys1 acc Pc H2 → ys1.length ≤ i → i < sizeLine → Rep S F2 H2 d x Emp →
      evTo G W t (sa.set own (some d)) = .ok b s1 →
      (b = false → ∀ F3 P3 H3, CompI S F1 H1 Pr p own (σ.set own none) (pureE elt && pureTo t) F3 P3 (s1.set own none) ys1 acc Pc H3 → Nx H3) →
      (b = true → ∃ y s2, ev G W false elt s1 = .ok y s2 ∧ ∀ F3 P3 acc3 Pc3 H3, CompI S F1 H1 Pr p own (σ.set own none) (pureE elt && pureTo t) F3 P3 (s2.set own none) (ys1 ++ [y]) acc3 Pc3 H3 → Nx H3) →
      gName own x (wipe σ [own]) H2 fun σ2 H2 => wipe σ2 [own] = wipe σ [own] ∧ tTo S G W t σ2 H2 fun b H3 =>
        if b = true then tE S Z0 G W false elt σ2 H3 fun y H4 => ∃ acc, H4 p = some (.lst acc) ∧ acc.length < sizeLine ∧ Nx (upd H4 p (.lst (acc ++ [y]))) else Nx H3 := by
    intro i F2 H2 P2 sa s1 ys1 acc Pc d x b Nx I hl hz rx ef hn hy
    refine ⟨by simp only [wipe]; rw [List.set_set, List.set_set], F2, P2, sa.set own (some d), ⟨put_any I.sr.rep I.no rx, I.sr.fr, I.sr.sub⟩, ?_⟩
    rw [ef]
    intro F3 H3 Pa3 sr3 ex3 sm3
    cases b with
    | false =>
      rw [if_neg (by decide)]
      obtain ⟨P4, I4⟩ := I.skip (d := d) (v := x) sr3 ex3 (fun h => sm3 (by simp only [Bool.and_eq_true] at h; exact h.2)) e0
      exact hn rfl _ _ _ I4
    | true =>
      rw [if_pos rfl]
      obtain ⟨y, s2, eg, hy⟩ := hy rfl
      refine ⟨F3, Pa3, s1, sr3, ?_⟩
      rw [eg]
      intro w F4 H4 Pd Pa4 ok
      have ok' := Ok.later (kp := pureTo t) ex3 sm3 ok
      obtain ⟨P5, I5⟩ := I.more ok' rfl (fun h => ok'.same (by simp only [Bool.and_eq_true] at h ⊢; exact ⟨h.2, h.1⟩)) rfl e0
      refine ⟨acc, ok'.ext.kept _ _ I.at_ I.nP, ?_, hy _ _ _ _ _ I5⟩
      rw [Reps.len I.acc]
      omega
  cases im with
  | vals ds =>
    obtain ⟨vs, rv, hJ⟩ := hJ
    simp only at o1
    have hvl : vs.length = ds.length := Reps.len (rv H1)
    by_cases hz : ds.length ≤ sizeLine
    · simp only [hz, decide_true, Bool.not_true, Bool.false_eq_true, if_false] at o1
      cases hc : compL (fun s => (evTo G W t s).noRz) (fun s => (ev G W false elt s).noRz) own ds (a1.set own none) with
      | bad => rw [hc] at o1; exact o1.elim
      | rz c s' => exact (compL_norz _ _ _ _ hc).elim
      | ok ys sE =>
        rw [hc] at o1
        have o1 : KV S F H P σ (atE v (.comp own elt it t)) Q (.lst true ys) (sE.set own (a1[own]?).join) := o1
        refine ⟨fun i m H2 => m = vs.length - i ∧ i ≤ vs.length ∧ ∃ F2 P2 sa ys1 acc Pc ys2, CompI S F1 H1 Pr p own (σ.set own none) (pureE elt && pureTo t) F2 P2 sa ys1 acc Pc H2 ∧ ys1.length ≤ i ∧
          compL (fun s => (evTo G W t s).noRz) (fun s => (ev G W false elt s).noRz) own (ds.drop i) sa = .ok ys2 sE ∧ ys1 ++ ys2 = ys, ⟨vs.length, rfl, Nat.zero_le _, F1, Pr, _, [], [], Emp, ys, start, Nat.le_refl _, hc, rfl⟩, ?_⟩
        rintro i m H2 ⟨rfl, hi, F2, P2, sa, ys1, acc, Pc, ys2, I, hl, hcc, rfl⟩
        have sF : Same F1 H2 := I.ext.same.trans I.sr.sub
        by_cases hlt : i < vs.length
        · right
          refine ⟨(hJ i H2 sF).1 hlt, fun H3 => ∃ F2 P2 sa ys1' acc Pc ys2', CompI S F1 H1 Pr p own (σ.set own none) (pureE elt && pureTo t) F2 P2 sa ys1' acc Pc H3 ∧ ys1'.length ≤ i + 1 ∧
            compL (fun s => (evTo G W t s).noRz) (fun s => (ev G W false elt s).noRz) own (ds.drop (i + 1)) sa = .ok ys2' sE ∧ ys1' ++ ys2' = ys1 ++ ys2, fun H3 h => ⟨vs.length - (i + 1), by omega, rfl, by omega, h⟩, fun x H3 y => ?_⟩
          obtain ⟨rfl, ex⟩ := (hJ i H2 sF).2.2 x H3 hlt y
          have hd : ds.drop i = ds[i] :: ds.drop (i + 1) := List.drop_eq_getElem_cons (by omega)
          rw [hd] at hcc
          obtain ⟨b, s1, ef, hb⟩ := compL_cons hcc
          have rx : Rep S F2 H3 ds[i] x Emp := by
            obtain ⟨_, hr⟩ := Reps.at_iff.mp (rv H3)
            exact (hr i ds[i] x (by simp [hvl ▸ hlt]) ex).keep I.ext.same _ fun _ _ => rfl
          refine turn (i := i) I hl (by omega) rx ef (fun e F3 P3 H3 I3 => ?_) fun e => ?_
          · rcases hb with ⟨h, _⟩ | ⟨_, h⟩
            · rw [e] at h; cases h
            · exact ⟨F3, P3, _, ys1, acc, Pc, ys2, I3, by omega, h, rfl⟩
          · rcases hb with ⟨_, y, s2, ys3, eg, h, rfl⟩ | ⟨h, _⟩
            · exact ⟨y, s2, eg, fun F3 P3 acc3 Pc3 H3 I3 => ⟨F3, P3, _, ys1 ++ [y], acc3, Pc3, ys3, I3, by rw [List.length_append, List.length_singleton]; omega, h, by rw [List.append_assoc]; rfl⟩⟩
            · rw [e] at h; cases h
        · left
          have hi' : i = vs.length := by omega
          refine ⟨(hJ i H2 sF).2.1 (by omega), ?_⟩
          rw [List.drop_of_length_le (by omega)] at hcc
          simp only [compL, Er.ok.injEq] at hcc
          obtain ⟨rfl, rfl⟩ := hcc
          rw [List.append_nil] at o1
          exact fin I o1
    · simp only [hz, decide_false, Bool.not_false, if_true] at o1
      exact o1.elim
  | live j =>
    obtain ⟨q, eq, hJ⟩ := hJ
    simp only at o1
    cases hc : compV W (fun s => (evTo G W t s).noRz) (fun s => (ev G W false elt s).noRz) own j W 0 (a1.set own none) with
    | bad => rw [hc] at o1; exact o1.elim
    | rz c s' => exact (compV_norz _ _ _ _ _ hc).elim
    | ok ys sE =>
      rw [hc] at o1
      have o1 : KV S F H P σ (atE v (.comp own elt it t)) Q (.lst true ys) (sE.set own (a1[own]?).join) := o1
      refine ⟨fun i m H2 => ∃ F2 P2 sa ys1 acc Pc ys2, CompI S F1 H1 Pr p own (σ.set own none) (pureE elt && pureTo t) F2 P2 sa ys1 acc Pc H2 ∧ ys1.length ≤ i ∧
        compV W (fun s => (evTo G W t s).noRz) (fun s => (ev G W false elt s).noRz) own j m i sa = .ok ys2 sE ∧ ys1 ++ ys2 = ys, ⟨W, F1, Pr, _, [], [], Emp, ys, start, Nat.le_refl _, hc, rfl⟩, ?_⟩
      rintro i m H2 ⟨F2, P2, sa, ys1, acc, Pc, ys2, I, hl, hcc, rfl⟩
      cases m with
      | zero => simp [compV] at hcc
      | succ n =>
        obtain ⟨mk, ds, er, hs⟩ := compV_step hcc
        obtain ⟨w, Q1, Q2, ew, e2, di, r, _, _⟩ := I.sr.rep.focus (rd_some er)
        have hoj : own ≠ j := fun z => by rw [← z, I.no] at er; cases er
        rw [List.getElem?_set_ne hoj, eq] at ew
        cases ew
        obtain ⟨q', vs, P', eq', eh, rr⟩ := r.lst_at I.sr.sub
        cases eq'
        have hvl := Reps.len rr
        obtain ⟨j1, j2, j3⟩ := hJ i H2 vs eh
        rcases hs with ⟨en, rfl, rfl⟩ | ⟨d, ed, hst, _, hz, b, s1, ef, hb⟩
        · left
          have : ds.length ≤ i := List.getElem?_eq_none_iff.mp en
          rw [List.append_nil] at o1
          exact ⟨j2 (by omega), fin I o1⟩
        · right
          have hlt : i < ds.length := (List.getElem?_eq_some_iff.mp ed).1
          refine ⟨j1 (by omega), fun H3 => ∃ F2 P2 sa ys1' acc Pc ys2', CompI S F1 H1 Pr p own (σ.set own none) (pureE elt && pureTo t) F2 P2 sa ys1' acc Pc H3 ∧ ys1'.length ≤ i + 1 ∧
            compV W (fun s => (evTo G W t s).noRz) (fun s => (ev G W false elt s).noRz) own j n (i + 1) sa = .ok ys2' sE ∧ ys1' ++ ys2' = ys1 ++ ys2, fun H3 h => ⟨n, Nat.lt_succ_self _, h⟩, fun x H3 y => ?_⟩
          obtain ⟨rfl, ex⟩ := j3 x H3 (by omega) y
          obtain ⟨x', Px, ex', rx, sbx⟩ := rr.item ed
          rw [ex] at ex'; cases ex'
          rw [rx.still d hst] at rx
          refine turn (i := i) I hl (by omega) rx ef (fun e F3 P3 H3 I3 => ?_) fun e => ?_
          · rcases hb with ⟨h, _⟩ | ⟨_, h⟩
            · rw [e] at h; cases h
            · exact ⟨F3, P3, _, ys1, acc, Pc, ys2, I3, by omega, h, rfl⟩
          · rcases hb with ⟨_, y, s2, ys3, eg, h, rfl⟩ | ⟨h, _⟩
            · exact ⟨y, s2, eg, fun F3 P3 acc3 Pc3 H3 I3 => ⟨F3, P3, _, ys1 ++ [y], acc3, Pc3, ys3, I3, by rw [List.length_append, List.length_singleton]; omega, h, by rw [List.append_assoc]; rfl⟩⟩
            · rw [e] at h; cases h
section
variable {X : Cx} {G : Env0A} {W : Nat}
theorem c_comp {own : Nat} {y : Str} {elt : ME} {it : MI} {t : MTo} {e tg iter : Expr} {ifs : List Expr} {scope : Scope} {pos : Pos} {v : Bool} (hc : X.calm = true) (hN : X.N.Nodup) (hi : PI X tg iter (tIt S Z G W it)) (ok : BlkOk X.N X.env.scope scope [(y, own)])
    (hg : ∀ (s : Shared) (H : Hp) (C : Addr) (cl : List (Str × Addr)) (fp : List Addr), PG (X.blk s H scope (compEnvC scope cl C X.env) fp) tg (gName own)) (ht : ∀ (s : Shared) (H : Hp) (C : Addr) (cl : List (Str × Addr)) (fp : List Addr), PTs (X.blk s H scope (compEnvC scope cl C X.env) fp) ifs (tTo S G W t))
    (he : ∀ (s : Shared) (H : Hp) (C : Addr) (cl : List (Str × Addr)) (fp : List Addr), PE (X.blk s H scope (compEnvC scope cl C X.env) fp) e (tE S Z0 G W false elt)) (hs : ∀ x, foldedSetIterable iter X.env x = pure x) :
    PE X (.ListComp e [⟨tg, iter, ifs, 0⟩] scope pos) (tE S Z G W v (.comp own elt it t)) := (pe_lc hc hN hi ok hg ht he hs).weak fun σ H Q h => lc_ok h
end
end Ab
/-! AbSet: set(l) of a list of are, as SetR has it. -/
namespace Ab
open PySem L2 PySem.Spec PyProof.Rows
section
variable {P : Program} {w : World} {A : Around} {E : Value → Shared → Prop} {s : Shared}
/-- the new set ahead of its items -/
abbrev bare (w : World) : Obj := { cls := .type "set", dict := none, data := .set #[] 0 (.fresh 0 0 (!w.params.followText "set-order")) }
set_option maxHeartbeats 3200000 in
theorem call_set_lstI {l : Addr} {items : Array Value} (ns : List Int) {Q : Value → Shared → Prop} (free : A.handled = none) (isl : s.heap.IsList l items) (are : IntsAre items.toList ns) (room : ns.length + 1 < scanBound)
    (fin : ∀ (g : Heap) (tk c : Nat), SetR w g s.heap.objs.size (fun j => decide (j ∈ ns)) c → c ≤ ns.length → (∀ b o, s.heap.get? b = some o → g.get? b = some o) → Q (.ref s.heap.objs.size) { s with heap := g, toks := tk }) :
    wpAny (model P w) A (call (.type "set") [.ref l]) Q E s := by
  have size : items.size = ns.length := by
    have z := IntsAre.length are
    simpa using z
  obtain ⟨c, tl, mro⟩ := F.called_set.mro
  have isMade := F.called_set.made
  have isSub := F.called_set.sub
  refine wpAny_call (codeAny_of_tree (show wpAny _ _ (callAny (.type "set") _) _ _ _ from ?_))
  refine wpAny_pure ⟨Code.quiet_builtin _ (by decide +kernel), ?_⟩
  refine codeAny_builtin F.entry_type_call ?_
  rw [Around.under_plain (weight_type_call_type "set" [.ref l] []) rfl]
  have noTy := F.called_set.notType
  have canMake := F.called_set.canCreate
  have check1 := F.typeCall_set_1 (.ref l)
  repeat (any_goals (first | wp_step | assumption))
  refine codeAny_mono (code_set_led1 (.ref l) (E := E) (Q₁ := fun ob t => ob = .ref s.heap.objs.size ∧ t = { s with heap := s.heap.push (bare w) }) ⟨rfl, rfl⟩) fun res t ht => ?_
  match res, ht with
  | .error e, ht => exact ht
  | .ok .next, ht => exact ht.elim
  | .ok .brk, ht => exact ht.elim
  | .ok .cont, ht => exact ht.elim
  | .ok (.ret ob), ht =>
    obtain ⟨rfl, rfl⟩ := ht
    have atS : (s.heap.push (bare w)).get? s.heap.objs.size = some (bare w) := Heap.get?_push_size _ rfl
    have tyS : Shared.TypeIs { s with heap := s.heap.push (bare w) } (.ref s.heap.objs.size) "set" := ⟨_, atS, rfl⟩
    have initLook := F.called_set.init.lookup
    have initBind := F.called_set.init.bind (.ref s.heap.objs.size)
    repeat (any_goals (first | wp_step | assumption))
    refine codeAny_mono (codeAny_call_builtin (R := wants (fun r t => r = .none ∧ ∃ g tk c, t = { s with heap := g, toks := tk } ∧ SetR w g s.heap.objs.size (fun j => decide (j ∈ ns)) c ∧ c ≤ ns.length ∧
        ∀ b o, s.heap.get? b = some o → g.get? b = some o) E) F.called_set.init.plain F.entry_set_init (check_set_init_1 tyS ?_)) fun r2 t2 h2 => ?_
    · obtain ⟨ol, el, cl, nl, dl⟩ := isl
      obtain ⟨c0, d0, dat, sl⟩ := ol
      simp only at cl dl
      subst cl
      subst dl
      have el1 : (s.heap.push (bare w)).get? l = some { cls := .type "list", dict := d0, data := .seq items nl, slots := sl } := Heap.get?_push_of_some _ el
      have sub1 := PySem.F.sub_list_set
      have sub2 := PySem.F.sub_list_frozenset
      have noDict : (Value.type "list" == Value.type "dict") = false := by decide
      have isl1 : (s.heap.push (bare w)).IsList l items := ⟨_, el1, rfl, nl, rfl⟩
      unfold Builtin.«set.__init__» noKeywords
      unfold Builtin.Frozenset.updateFrom
      generalize hIter : pyIter = iter
      wp_walk
      subst hIter
      refine wpAny_pyIter_list isl1 (wpAny_bind (wpAny_runValue ?_))
      have llt : l < s.heap.objs.size := Heap.lt_size el
      have free3 : A.in1.in1.in1.handled = none := by simp [free]
      have sz1 : (s.heap.push (bare w)).objs.size = s.heap.objs.size + 1 := Heap.size_push ..
      have neI : l ≠ (s.heap.push (bare w)).objs.size := by rw [sz1]; exact Nat.ne_of_lt (Nat.lt_succ_of_lt llt)
      have notIn : s.heap.objs.size ∉ [(s.heap.push (bare w)).objs.size, l] := by
        rw [sz1]
        simp only [List.mem_cons, List.not_mem_nil, or_false, not_or]
        exact And.intro (Nat.ne_of_lt (Nat.lt_succ_self _)) (Nat.ne_of_gt llt)
      have vals : ∀ (i : Nat) (v : Value), items[i]? = some v → ∃ k t, ns[i]? = some k ∧ v = .int k t := fun i v hv => by
        have hi : i < ns.length := size ▸ (Array.getElem?_eq_some_iff.mp hv).1
        obtain ⟨t, e⟩ := PyProof.Rows.IntsAre.int_at are i v (by rw [Array.getElem?_toList]; exact hv)
        exact ⟨ns[i], t, List.getElem?_eq_getElem hi, by rw [e, List.getD_eq_getElem?_getD, List.getElem?_eq_getElem hi]; rfl⟩
      refine set_update_ints ((Walks.list free3 _ l neI items).toS) s.heap.objs.size notIn ns size room vals items.size 0 _ (by omega) (by omega) ⟨⟨_, Heap.get?_push_size _ rfl, rfl, rfl⟩, isl1.push _⟩ ⟨0, Nat.zero_le _, setR_new_at (Heap.get?_push_of_some _ atS)⟩ ?_
      rintro ⟨g, ge, dr, tk, os⟩ c1 mv le SR
      obtain rfl : ge = s.gens := mv.gens
      obtain rfl : dr = s.drawn := mv.drawn
      obtain rfl : os = s.os := mv.os
      refine wpAny_pure (wpAny_pure ⟨rfl, g, tk, c1, rfl, SR, by omega, fun b o e => mv.heap b o ?_ (Heap.get?_push_of_some _ (Heap.get?_push_of_some _ e))⟩)
      have hb := Heap.lt_size e
      rw [sz1]
      simp only [List.mem_cons, List.not_mem_nil, or_false, not_or]
      exact And.intro (Nat.ne_of_lt hb) (Nat.ne_of_lt (Nat.lt_succ_of_lt hb))
    · match r2, h2 with
      | .error e, h2 => exact h2
      | .ok .next, h2 => exact h2.elim
      | .ok .brk, h2 => exact h2.elim
      | .ok .cont, h2 => exact h2.elim
      | .ok (.ret r), h2 =>
        obtain ⟨rfl, g, tk, c1, rfl, SR, le, kp⟩ := h2
        repeat (any_goals (first | wp_step | assumption))
        exact fin _ _ _ SR le kp
end
end Ab
namespace Ab
open PySem L2
open Classical
variable {S : Sig} {Z : L2.St → Nat → Hp → Prop} {F F' H H' : Hp} {P : Fp} {σ : L2.St} {a a' : SA}

/-! ### sorted -/
section
variable {X : Cx}
end
/-! ### sorted(set(xs)) -/
theorem insU_mem (x : Int) : ∀ ys : List Int, ∀ k, k ∈ insU x ys ↔ k = x ∨ k ∈ ys
  | [], k => by simp [insU]
  | y :: ys, k => by
    simp only [insU]
    split
    · simp
    · split
      · rename_i h; subst h; simp
      · simp only [List.mem_cons, insU_mem x ys k]
        constructor
        · rintro (h | h | h)
          · exact .inr (.inl h)
          · exact .inl h
          · exact .inr (.inr h)
        · rintro (h | h | h)
          · exact .inr (.inl h)
          · exact .inl h
          · exact .inr (.inr h)
theorem insU_asc (x : Int) : ∀ ys : List Int, ys.Pairwise (· < ·) → (insU x ys).Pairwise (· < ·)
  | [], _ => by simp [insU]
  | y :: ys, h => by
    obtain ⟨h1, h2⟩ := List.pairwise_cons.mp h
    simp only [insU]
    split
    · rename_i hl
      refine List.pairwise_cons.mpr ⟨fun z hz => ?_, h⟩
      rcases List.mem_cons.mp hz with rfl | hz
      · exact hl
      · have := h1 z hz; omega
    · split
      · exact h
      · rename_i n1 n2
        refine List.pairwise_cons.mpr ⟨fun z hz => ?_, insU_asc x ys h2⟩
        rcases (insU_mem x ys z).mp hz with rfl | hz
        · omega
        · exact h1 z hz
theorem sset_mem : ∀ (xs : List Int) (k : Int), k ∈ sset xs ↔ k ∈ xs
  | [], k => by simp [sset]
  | x :: xs, k => by simp only [sset, insU_mem, sset_mem xs k, List.mem_cons]
theorem sset_asc : ∀ xs : List Int, (sset xs).Pairwise (· < ·)
  | [] => List.Pairwise.nil
  | x :: xs => insU_asc x _ (sset_asc xs)
section
variable {X : Cx} {G : Env0A} {W : Nat}
theorem New.from {d : D} {v : V} {Pd : Fp} {H1 : Hp} (sH : Same H H1) (n : New S F H1 d v F' H' Pd) : New S F H d v F' H' Pd :=
  ⟨n.rep, n.sF, sH.trans n.sH, n.sub, fun x h => sH.free (n.fresh x h), n.fr, fun x o h => (n.frz x o h).imp id fun z => sH.free z⟩
end
end Ab
namespace Ab
open PySem L2
open Classical
variable {S : Sig} {Z : L2.St → Nat → Hp → Prop} {F F' H H' : Hp} {P : Fp} {σ : L2.St} {a a' : SA}

theorem Reps.erase : ∀ {ds : List D} {vs : List V} {P : Fp} {j : Nat} {d : D}, Reps S F H ds vs P → ds[j]? = some d →
    ∃ v P1 P2, vs[j]? = some v ∧ P = Uni P1 P2 ∧ Dis P1 P2 ∧ Rep S F H d v P1 ∧ Reps S F H (ds.eraseIdx j) (vs.eraseIdx j) P2
  | [], vs, P, j, d, h, e => by simp at e
  | d0 :: ds, vs, P, 0, d, h, e => by
    simp at e; subst e
    simp only [Reps] at h
    obtain ⟨v, r, P1, P2, rfl, e, di, h1, h2⟩ := h
    exact ⟨v, P1, P2, rfl, e, di, h1, h2⟩
  | d0 :: ds, vs, P, j + 1, d, h, e => by
    simp only [Reps] at h
    obtain ⟨v0, r, P0, PR, rfl, rfl, d0i, h0, hr⟩ := h
    obtain ⟨v, P1, P2, ev, rfl, di, h1, h2⟩ := Reps.erase (j := j) hr (by simpa using e)
    refine ⟨v, P1, Uni P0 P2, by simpa using ev, uni_left_comm _ _ _, Dis.uni' (fun x h1 h2 => d0i x h2 (.inl h1)) di, h1, ?_⟩
    simp only [List.eraseIdx, Reps]
    exact ⟨v0, _, P0, P2, rfl, rfl, fun x h1 h2 => d0i x h1 (.inr h2), h0, h2⟩
/-- an item in the focus -/
theorem Reps.hole : ∀ {ds : List D} {vs : List V} {P : Fp} {j : Nat} {d : D}, Reps S F H ds vs P → ds[j]? = some d →
    ∃ v P1 P2, vs[j]? = some v ∧ P = Uni P1 P2 ∧ Dis P1 P2 ∧ Rep S F H d v P1 ∧ ∀ (F' H' : Hp) (d' : D) (v' : V) (P1' : Fp), Same F F' → (∀ x, P2 x → H' x = H x) → Rep S F' H' d' v' P1' → Dis P1' P2 → Reps S F' H' (ds.set j d') (vs.set j v') (Uni P1' P2)
  | [], vs, P, j, d, h, e => by simp at e
  | d0 :: ds, vs, P, 0, d, h, e => by
    simp at e; subst e
    simp only [Reps] at h
    obtain ⟨v, r, P1, P2, rfl, e, di, h1, h2⟩ := h
    refine ⟨v, P1, P2, rfl, e, di, h1, fun F' H' d' v' P1' sF k r' n => ?_⟩
    simp only [List.set, Reps]
    exact ⟨v', r, P1', P2, rfl, rfl, n, r', Reps.keep sF ds h2 k⟩
  | d0 :: ds, vs, P, j + 1, d, h, e => by
    simp only [Reps] at h
    obtain ⟨v0, r, P0, PR, rfl, rfl, d0i, h0, hr⟩ := h
    obtain ⟨v, P1, P2, ev, rfl, di, h1, h2⟩ := Reps.hole (j := j) hr (by simpa using e)
    refine ⟨v, P1, Uni P0 P2, by simpa using ev, uni_left_comm _ _ _, Dis.uni' (fun x h1 h2 => d0i x h2 (.inl h1)) di, h1, fun F' H' d' v' P1' sF k r' n => ?_⟩
    simp only [List.set, Reps]
    exact ⟨v0, _, P0, Uni P1' P2, rfl, uni_left_comm _ _ _, fun x h1 h2 => h2.elim (fun z => n x z (.inl h1)) fun z => d0i x h1 (.inr z), h0.keep sF d0 fun x hx => k x (.inl hx), h2 F' H' d' v' P1' sF (fun x hx => k x (.inr hx)) r' fun x h1 h2 => n x h1 (.inr h2)⟩
/-- an own list in a slot: an item taken out -/
theorem SR.takeItem {i j : Nat} {ds : List D} {d : D} (sr : SR S F H a σ P) (e : rd a i = some (.lst true ds)) (ej : ds[j]? = some d) :
    ∃ p vs v Pd Pa, σ[i]? = some (some (.ref p)) ∧ H p = some (.lst vs) ∧ vs.length = ds.length ∧ vs[j]? = some v ∧ Rep S F (upd H p (.lst (vs.eraseIdx j))) d v Pd ∧ SR S F (upd H p (.lst (vs.eraseIdx j))) (a.set i (some (.lst true (ds.eraseIdx j)))) σ Pa ∧ Dis Pd Pa ∧
      (∀ x, Pd x → F x = none) ∧ Ext F F H (upd H p (.lst (vs.eraseIdx j))) P (Uni Pd Pa) := by
  obtain ⟨w, P1, P2, e1, e2, di, r, h2, put⟩ := sr.rep.focus (rd_some e)
  simp only [Rep] at r
  obtain ⟨p, vs, rfl, r⟩ := r
  rw [if_pos trivial] at r
  obtain ⟨ep, _, P', np, eP1, rs⟩ := r
  obtain ⟨v, Q1, Q2, ev, eQ, dq, rv, rr⟩ := rs.erase ej
  have hF : ∀ x, P x → F x = none := sr.fr
  have p1 : P1 p := by rw [eP1]; exact .inl rfl
  have nQ1 : ¬ Q1 p := fun z => np (by rw [eQ]; exact .inl z)
  have nQ2 : ¬ Q2 p := fun z => np (by rw [eQ]; exact .inr z)
  have n2 : ¬ P2 p := fun z => di p p1 z
  have kp : ∀ x, x ≠ p → upd H p (.lst (vs.eraseIdx j)) x = H x := fun x h => upd_ne h
  have rl : Rep S F (upd H p (.lst (vs.eraseIdx j))) (.lst true (ds.eraseIdx j)) (.ref p) (Uni (fun x => x = p) Q2) := by
    simp only [Rep]
    refine ⟨p, vs.eraseIdx j, rfl, ?_⟩
    rw [if_pos trivial]
    exact ⟨upd_same, .inl rfl, Q2, nQ2, rfl, Reps.keep (fun _ _ z => z) _ rr fun x hx => kp x fun z => nQ2 (z ▸ hx)⟩
  have sub2 : ∀ x, Uni (fun x => x = p) Q2 x → P1 x := fun x h => by
    rw [eP1, eQ]
    exact h.elim .inl fun z => .inr (.inr z)
  have sub1 : ∀ x, Q1 x → P1 x := fun x h => by
    rw [eP1, eQ]; exact .inr (.inl h)
  have r2 := put F (upd H p (.lst (vs.eraseIdx j))) P2 (h2.keep (fun _ _ z => z) fun x hx => kp x fun z => n2 (z ▸ hx)) _ _ rl (fun x h1 h2 => di x (sub2 x h1) h2)
  refine ⟨p, vs, v, Q1, Uni (Uni (fun x => x = p) Q2) P2, e1, ep, Reps.len rs, ev, rv.keep (fun _ _ z => z) d fun x hx => kp x fun z => nQ1 (z ▸ hx), ⟨r2, fun x h => hF x (by rw [e2]; exact h.elim (fun z => .inl (sub2 x z)) .inr), fun x o q => ?_⟩, ?_, fun x h => hF x (by rw [e2]; exact .inl (sub1 x h)), ?_⟩
  · have hFp : F p = none := hF p (by rw [e2]; exact .inl p1)
    rw [kp x fun z => by rw [z, hFp] at q; cases q]
    exact sr.sub x o q
  · intro x h1 h2
    rcases h2 with (h2 | h2) | h2
    · have h2 : x = p := h2
      rw [h2] at h1; exact nQ1 h1
    · exact dq x h1 h2
    · exact di x (sub1 x h1) h2
  · refine (Ext.updIn (o := .lst (vs.eraseIdx j)) (show P p by rw [e2]; exact .inl p1)).less fun x h => ?_
    rw [e2]
    exact h.elim (fun z => .inl (sub1 x z)) fun z => z.elim (fun y => .inl (sub2 x y)) .inr
section
variable {X : Cx} {G : Env0A} {W : Nat}
theorem few1 {e : Expr} {env : Env} {cpos : Pos} (h : noStar e = true) : ((backTo cpos (starEach [e] env)).all (fun x => !x.1) && (backToKw cpos (keywordEach [] env)).all (fun x => x.1.isSome)
      && decide ([e].length + ([] : List Keyword).length + (if ([] : List Keyword).isEmpty then 0 else 1) < 30)) = true := by
  rw [star_cons h]; rfl
theorem c_pop {i : Nat} {x : Str} {npos apos pos : Pos} {v : Bool} (hN : X.N[i]? = some x) (hv : Vis X.env.scope x) (hd : (x == ("__debug__" : Str)) = false) (hcd : (x == ("__classdict__" : Str)) = false) (hl : (apos.endLine == pos.line) = true) :
    PE X (.Call (.Attribute (.Name x npos) "pop" apos) [] [] pos) (tE S Z G W v (.pop i)) := by
  refine (pe_bm0 PySem.F.plainAttrs_list PySem.F.slot_list_pop PySem.F.type_list_pop mt_pop (pe_var hN hv hd hcd) (base_of rfl) hl).weak fun σ H Q h => ?_
  obtain ⟨F, P, a, sr, o⟩ := h
  simp only [ev] at o
  split at o
  case h_2 => exact o.elim
  rename_i ds e
  split at o
  case h_2 => exact o.elim
  rename_i d ej
  obtain ⟨p, vs, w, Pd, Pa, e1, ep, hl, ew, r, sr2, di, fr, ex⟩ := sr.takeItem e ej
  have eD : ds.eraseIdx (ds.length - 1) = ds.dropLast := List.eraseIdx_length_sub_one ..
  have eV : vs.eraseIdx (ds.length - 1) = vs.dropLast := by rw [← hl]; exact List.eraseIdx_length_sub_one ..
  rw [eV] at r sr2 ex
  rw [eD] at sr2
  refine ⟨_, e1, .inl ⟨rfl, vs, SqL.of ep⟩, p, vs, w, rfl, rfl, ep, by rw [hl]; exact ew, ?_⟩
  exact o w F _ Pd Pa ⟨r, sr2, ex.less fun x h => .inr h, fun _ => ex, fun _ => di, fun _ => fr, fun h => by simp [atE, pureE] at h, fun i h => by simp [atE, slotOf] at h⟩
end
end Ab
namespace Ab
open PySem L2
open Classical
variable {S : Sig} {Wd : WX} {fix : List Nat} {F F' H H' : Hp} {P : Fp} {σ : L2.St} {a a' : SA}

def Fix (fix : List Nat) (σ σ' : L2.St) : Prop := ∀ i ∈ fix, σ'[i]? = σ[i]?
theorem Fix.rfl' : Fix fix σ σ := fun _ _ => rfl
theorem Fix.trans {σ1 σ2 σ3 : L2.St} (h : Fix fix σ1 σ2) (g : Fix fix σ2 σ3) : Fix fix σ1 σ3 := fun i hi => (g i hi).trans (h i hi)
theorem Fix.set {i : Nat} {o : Option V} (h : ¬ i ∈ fix) : Fix fix σ (σ.set i o) := fun j hj => List.getElem?_set_ne (show i ≠ j from fun e => h (by rw [e]; exact hj))
/-- what a statement's reckoning says of the machine -/
def OutS (S : Sig) (Wd : WX) (fix : List Nat) (F H : Hp) (P : Fp) (σ : L2.St) (E : Ends) : Fl → Prop
  | .nx a' => ∀ σ' F' H' Pa, SR S F' H' a' σ' Pa → Ext F F' H H' P Pa → Fix fix σ σ' → E.nx σ' H'
  | .bk a' => ∀ σ' F' H' Pa, SR S F' H' a' σ' Pa → Ext F F' H H' P Pa → Fix fix σ σ' → E.bk σ' H'
  | .ct a' => ∀ σ' F' H' Pa, SR S F' H' a' σ' Pa → Ext F F' H H' P Pa → Fix fix σ σ' → E.ct σ' H'
  | .rt d a' => ∀ v σ' F' H' Pd Pa, Rep S F' H' d v Pd → SR S F' H' a' σ' Pa → Ext F F' H H' P (Uni Pd Pa) → Dis Pd Pa → (∀ x, Pd x → F' x = none) → Fix fix σ σ' → E.rt v H'
  | .rz c a' => ∀ σ' F' H' Pa, SR S F' H' a' σ' Pa → Ext F F' H H' P Pa → Fix fix σ σ' → Wd (S.exn c) none σ' H'
  | .bad => False
theorem OutS.at {E : Ends} {x : Fl} {F1 H1 : Hp} {P1 : Fp} {σ1 : L2.St} (e : Ext F F1 H H1 P P1) (fx : Fix fix σ σ1) (h : OutS S Wd fix F H P σ E x) : OutS S Wd fix F1 H1 P1 σ1 E x := by
  cases x with
  | nx a => exact fun σ' F' H' Pa sr ex f => h σ' F' H' Pa sr (e.trans ex) (fx.trans f)
  | bk a => exact fun σ' F' H' Pa sr ex f => h σ' F' H' Pa sr (e.trans ex) (fx.trans f)
  | ct a => exact fun σ' F' H' Pa sr ex f => h σ' F' H' Pa sr (e.trans ex) (fx.trans f)
  | rz c a => exact fun σ' F' H' Pa sr ex f => h σ' F' H' Pa sr (e.trans ex) (fx.trans f)
  | rt d a => exact fun v σ' F' H' Pd Pa r sr ex di fr f => h v σ' F' H' Pd Pa r sr (e.trans ex) di fr (fx.trans f)
  | bad => exact h
def tS (S : Sig) (Wd : WX) (fix : List Nat) (f : SA → Fl) : TS := fun E σ H => ∃ F P a, SR S F H a σ P ∧ OutS S Wd fix F H P σ E (f a)
theorem _root_.L2.PS.weak {X : Cx} {s : Stmt} {t t' : TS} (h : PS X s t) (w : ∀ E σ H, t' E σ H → t E σ H) : PS X s t' := ⟨fun pins s σ H E I q => h.run pins s σ H E I (w E σ H q)⟩
theorem _root_.L2.PSs.weak {X : Cx} {s : List Stmt} {t t' : TS} (h : PSs X s t) (w : ∀ E σ H, t' E σ H → t E σ H) : PSs X s t' := ⟨fun pins s σ H E I q => h.run pins s σ H E I (w E σ H q)⟩
/-- an expression at the head of a statement -/
theorem OutS.head {α : Type} {E : Ends} {x : Er α} {f : α → SA → Fl} (h : OutS S Wd fix F H P σ E (x.fl f)) : Out S (ZW S Wd σ) F H P σ (fun d a' => OutS S Wd fix F H P σ E (f d a')) x := by
  cases x with
  | ok d a => exact h
  | rz c a => exact fun F' H' Pa sr ex => h σ F' H' Pa sr ex Fix.rfl'
  | bad => exact h
theorem OutS.of {E : Ends} {o : Option SA} (h : OutS S Wd fix F H P σ E (Fl.of o)) : ∃ s, o = some s ∧ OutS S Wd fix F H P σ E (.nx s) := by
  cases o with
  | none => exact h.elim
  | some s => exact ⟨s, rfl, h⟩
/-- a slot set -/
theorem SR.asg {i : Nat} {d : D} {v : V} {Pd : Fp} (sr : SR S F H a σ P) (r : Rep S F H d v Pd) (di : Dis Pd P) (fr : ∀ x, Pd x → F x = none) : ∃ P2, SR S F H (a.set i (some d)) (σ.set i (some v)) P2 ∧ ∀ x, P2 x → Uni Pd P x := by
  obtain ⟨P2, sr2, sb⟩ := drop_both (own := i) (o := some v) sr
  by_cases hl : i < a.length
  · have e : (a.set i none)[i]? = some none := List.getElem?_set_self hl
    have := sr2.rep.put (by rw [List.length_set]; exact hl) e r fun x h1 h2 => di x h1 (sb x h2)
    rw [List.set_set, List.set_set] at this
    exact ⟨Uni Pd P2, ⟨this, fun x h => h.elim (fr x) (sr2.fr x), sr2.sub⟩, fun x h => h.elim .inl fun z => .inr (sb x z)⟩
  · rw [List.set_eq_of_length_le (show a.length ≤ i by omega)] at sr2 ⊢
    exact ⟨P2, sr2, fun x h => .inr (sb x h)⟩
section
variable {X : Cx} {G : Env0A} {W : Nat}
abbrev tSt (S : Sig) (Wd : WX) (G : Env0A) (W : Nat) (fix : List Nat) (s : MS) : TS := tS S Wd fix (ex G W fix s)
abbrev tSs (S : Sig) (Wd : WX) (G : Env0A) (W : Nat) (fix : List Nat) (s : MSs) : TS := tS S Wd fix (exs G W fix s)
abbrev tEw (S : Sig) (Wd : WX) (G : Env0A) (W : Nat) (v : Bool) (e : ME) : TE := tE S (ZW S Wd) G W v e
theorem ss_nil : PSs X [] (tSs S Wd G W fix .nil) := pss_nil.weak fun E σ H h => by
  obtain ⟨F, P, a, sr, o⟩ := h
  exact o σ F H P sr .refl Fix.rfl'
theorem ss_cons {s : Stmt} {ss : List Stmt} {m : MS} {ms : MSs} (h1 : PS X s (tSt S Wd G W fix m)) (h2 : PSs X ss (tSs S Wd G W fix ms)) : PSs X (s :: ss) (tSs S Wd G W fix (.cons m ms)) := (pss_cons h1 h2).weak fun E σ H h => by
  obtain ⟨F, P, a, sr, o⟩ := h
  refine ⟨F, P, a, sr, ?_⟩
  simp only [exs] at o
  cases e : ex G W fix m a with
  | nx a1 =>
    rw [e] at o
    exact fun σ' F' H' Pa sr' ex f => ⟨F', Pa, a1, sr', OutS.at ex f o⟩
  | bk a1 => rw [e] at o; exact o
  | ct a1 => rw [e] at o; exact o
  | rt d a1 => rw [e] at o; exact o
  | rz c a1 => rw [e] at o; exact o
  | bad => rw [e] at o; exact o
/-- a slot's new value: what an assignment does -/
theorem asg_end {i : Nat} {e : ME} {E : Ends} {v : V} {d : D} {a1 : SA} {F1 H1 : Hp} {P1 Pa1 : Fp} (ok : Ok S F H P σ (atE false e) d a1 v F1 H1 P1 Pa1) (hn : ¬ i ∈ fix) (o : OutS S Wd fix F H P σ E (.nx (a1.set i (some d)))) : E.nx (σ.set i (some v)) H1 := by
  obtain ⟨P2, sr2, sb⟩ := ok.sr.asg (i := i) ok.rep (ok.dis rfl) (ok.fr rfl)
  exact o _ F1 H1 P2 sr2 ((ok.ext2 rfl).less sb) (Fix.set hn)
theorem notFix {i : Nat} (h : fix.contains i = false) : ¬ i ∈ fix := by simpa using h
theorem asg_rd {i : Nat} {e : ME} {E : Ends} {σ : L2.St} {H : Hp} (h : tSt S Wd G W fix (.asg i e) E σ H) : tAsg (tEw S Wd G W false e) (gName i) E σ H := by
  obtain ⟨F, P, a, sr, o⟩ := h
  simp only [ex] at o
  split at o
  · exact o.elim
  rename_i hf
  exact ⟨F, P, a, sr, o.head.imp fun d a1 e1 o1 v F1 H1 P1 Pa1 ok => asg_end ok (notFix (by simpa using hf)) o1⟩
theorem s_asg {i : Nat} {x : Str} {me : ME} {e : Expr} {p pos : Pos} (hN : X.N.Nodup) (hi : X.N[i]? = some x) (hx : Loc X.env.scope x) (hf : X.fn x = true ∨ X.env.scope.names.lookup x = some .local) (hs : swapsWith e (some (.Name x p)) pos.line X.env = pure false) (he : PE X e (tEw S Wd G W false me)) :
    PS X (.Assign [.Name x p] e pos) (tSt S Wd G W fix (.asg i me)) := (ps_set hN hi hx he hs hf).weak fun E σ H h => asg_rd h
theorem s_ite {t : MT} {ma mb : MSs} {c : Expr} {ya yb : List Stmt} {pos : Pos} (hc : PT X c (tT S (ZW S Wd) G W t)) (ha : PSs X ya (tSs S Wd G W fix ma)) (hb : PSs X yb (tSs S Wd G W fix mb)) : PS X (.If c ya yb pos) (tSt S Wd G W fix (.ite t ma mb)) := (ps_if hc ha hb).weak fun E σ H h => by
  obtain ⟨F, P, a, sr, o⟩ := h
  simp only [ex] at o
  refine ⟨F, P, a, sr, o.head.imp fun b a1 e1 o1 F1 H1 Pa1 sr1 ex1 sm1 => ?_⟩
  cases b with
  | true =>
    rw [if_pos rfl] at o1 ⊢
    exact ⟨F1, Pa1, a1, sr1, o1.at ex1 Fix.rfl'⟩
  | false =>
    rw [if_neg (by decide)] at o1 ⊢
    exact ⟨F1, Pa1, a1, sr1, o1.at ex1 Fix.rfl'⟩
theorem ret_rd {me : ME} {E : Ends} {σ : L2.St} {H : Hp} {F : Hp} {P : Fp} {a : SA} (sr : SR S F H a σ P) (o : OutS S Wd fix F H P σ E ((ev G W false me a).fl fun d s1 => .rt d s1)) : tEw S Wd G W false me σ H E.rt :=
  ⟨F, P, a, sr, o.head.imp fun d a1 e1 o1 v F1 H1 P1 Pa1 ok => o1 v σ F1 H1 P1 Pa1 ok.rep ok.sr (ok.ext2 rfl) (ok.dis rfl) (ok.fr rfl) Fix.rfl'⟩
theorem s_ret {me : ME} {e : Expr} {pos : Pos} (hn : slotOf me = none) (he : PE X e (tEw S Wd G W false me)) : PS X (.Return (some e) pos) (tSt S Wd G W fix (.ret me)) := (ps_ret he).weak fun E σ H h => by
  obtain ⟨F, P, a, sr, o⟩ := h
  simp only [ex, hn] at o
  exact ret_rd sr o
theorem s_retS {i : Nat} {x : Str} {p pos : Pos} (hN : X.N[i]? = some x) (hv : Vis X.env.scope x) (hd : (x == ("__debug__" : Str)) = false) (hcd : (x == ("__classdict__" : Str)) = false) : PS X (.Return (some (.Name x p)) pos) (tSt S Wd G W fix (.ret (.slot i))) := (ps_ret (pe_var hN hv hd hcd)).weak fun E σ H h => by
  obtain ⟨F, P, a, sr, o⟩ := h
  simp only [ex, slotOf] at o
  split at o
  · exact slot_rd (ret_rd sr o)
  split at o
  case h_2 => exact o.elim
  rename_i d e
  obtain ⟨v, P1, P2, e1, e2, di, r, h2, _⟩ := sr.rep.focus (rd_some e)
  refine ⟨v, e1, o v σ F H P1 P2 r ⟨h2, fun x h => sr.fr x (by rw [e2]; exact .inr h), sr.sub⟩ ?_ di (fun x h => sr.fr x (by rw [e2]; exact .inl h)) Fix.rfl'⟩
  rw [← e2]; exact .refl
theorem s_raise {c : Nat} {e : Expr} {pos : Pos} (hc : X.calm = true) (tk : Takes X Wd) (he : PMk X e fun _ H Q => Q (S.exn c) none H) : PS X (.Raise (some e) none pos) (tSt S Wd G W fix (.raise c)) := (ps_raise hc tk he).weak fun E σ H ⟨F, P, a, sr, o⟩ =>
  o σ F H P sr .refl Fix.rfl'
theorem s_while {t : MT} {mb : MSs} {c : Expr} {body : List Stmt} {pos : Pos} (hp : PassesOwn (model X.prog X.w) X.A X.env X.xe) (hc : PT X c (tT S (ZW S Wd) G W t)) (hb : PSs X body (tSs S Wd G W fix mb)) : PS X (.While c body [] pos) (tSt S Wd G W fix (.whil t mb)) := (ps_while hp hc hb).weak fun E σ H h => by
  obtain ⟨F, P, a, sr, o⟩ := h
  simp only [ex] at o
  refine ⟨fun m σ' H' => ∃ F' P' a', SR S F' H' a' σ' P' ∧ Ext F F' H H' P P' ∧ Fix fix σ σ' ∧ OutS S Wd fix F H P σ E (whileL (fun s => evT G W t s) (fun s => exs G W fix mb s) m a'), ⟨W, F, P, a, sr, .refl, Fix.rfl', o⟩, ?_⟩
  rintro m σ1 H1 ⟨F1, P1, a1, sr1, ex1, fx1, o1⟩
  cases m with
  | zero => exact o1.elim
  | succ n =>
    simp only [whileL] at o1
    refine ⟨F1, P1, a1, sr1, ?_⟩
    cases ec : evT G W t a1 with
    | bad => rw [ec] at o1; exact o1.elim
    | rz c a2 => rw [ec] at o1; exact fun F' H' Pa sr' ex' => o1 σ1 F' H' Pa sr' (ex1.trans ex') fx1
    | ok b a2 =>
      rw [ec] at o1
      intro F2 H2 Pa2 sr2 ex2 sm2
      have ex12 := ex1.trans ex2
      cases b with
      | false => exact o1 σ1 F2 H2 Pa2 sr2 ex12 fx1
      | true =>
        rw [if_pos rfl]
        simp only at o1
        refine ⟨fun σ' H' => ∃ F' P' a', SR S F' H' a' σ' P' ∧ Ext F F' H H' P P' ∧ Fix fix σ σ' ∧ OutS S Wd fix F H P σ E (whileL (fun s => evT G W t s) (fun s => exs G W fix mb s) n a'), fun σ' H' h => ⟨n, Nat.lt_succ_self _, h⟩, F2, Pa2, a2, sr2, ?_⟩
        cases eb : exs G W fix mb a2 with
        | bad => rw [eb] at o1; exact o1.elim
        | nx a3 => rw [eb] at o1; exact fun σ' F' H' Pa sr' ex' f => ⟨F', Pa, a3, sr', ex12.trans ex', fx1.trans f, o1⟩
        | ct a3 => rw [eb] at o1; exact fun σ' F' H' Pa sr' ex' f => ⟨F', Pa, a3, sr', ex12.trans ex', fx1.trans f, o1⟩
        | bk a3 => rw [eb] at o1; exact fun σ' F' H' Pa sr' ex' f => o1 σ' F' H' Pa sr' (ex12.trans ex') (fx1.trans f)
        | rz c a3 => rw [eb] at o1; exact fun σ' F' H' Pa sr' ex' f => o1 σ' F' H' Pa sr' (ex12.trans ex') (fx1.trans f)
        | rt d a3 => rw [eb] at o1; exact fun v σ' F' H' Pd Pa r sr' ex' di fr f => o1 v σ' F' H' Pd Pa r sr' (ex12.trans ex') di fr (fx1.trans f)
end
end Ab
namespace Ab
open PySem L2
open Classical
variable {S : Sig} {Wd : WX} {fix : List Nat} {F F' H H' : Hp} {P : Fp} {σ : L2.St} {a a' : SA}

def gSlots : List Nat → TGs
  | [] => gNil
  | i :: is => gCons (gName i) (gSlots is)
def tG (K : PySem.W.Frag) : MG → TG
  | .name i => gName i
  | .pair i j => gTup K 2 (gSlots [i, j])
  | .trip i j k => gTup K 3 (gSlots [i, j, k])
  | .quad i j k l => gTup K 4 (gSlots [i, j, k, l])
theorem setN_ok : ∀ {is : List Nat} {ds : List D} {vs : List V} {s s1 : SA} {σ : L2.St} {P : Fp} {Q : L2.St → Hp → Prop}, setN s is ds = some s1 → SR S F H s σ P → Reps S F H ds vs Emp → (∀ i ∈ is, ¬ i ∈ fix) →
    (∀ σ2 P2, SR S F H s1 σ2 P2 → (∀ x, P2 x → P x) → Fix fix σ σ2 → Q σ2 H) → gSlots is vs σ H Q
  | [], ds, vs, s, s1, σ, P, Q, e, sr, r, hn, q => by
    cases ds with
    | cons d ds => simp [setN] at e
    | nil =>
      simp only [setN, Option.some.injEq] at e
      subst e
      simp only [Reps] at r
      exact ⟨r.1, q σ P sr (fun _ h => h) Fix.rfl'⟩
  | i :: is, ds, vs, s, s1, σ, P, Q, e, sr, r, hn, q => by
    cases ds with
    | nil => simp [setN] at e
    | cons d ds =>
      simp only [setN] at e
      simp only [Reps] at r
      obtain ⟨v, vr, P1, P2, rfl, ee, _, r1, r2⟩ := r
      obtain ⟨rfl, rfl⟩ := uni_empty ee
      obtain ⟨P3, sr3, sb⟩ := sr.asg (i := i) r1 emp_dis fun x h => h.elim
      refine ⟨v, vr, rfl, setN_ok e sr3 r2 (fun j hj => hn j (List.mem_cons_of_mem _ hj)) fun σ2 P4 sr4 sb4 f => q σ2 P4 sr4 (fun x h => (sb x (sb4 x h)).elim (fun z => z.elim) id) ((Fix.set (hn i List.mem_cons_self)).trans f)⟩
theorem setN_len : ∀ {is : List Nat} {ds : List D} {s s1 : SA}, setN s is ds = some s1 → ds.length = is.length
  | [], [], s, s1, e => rfl
  | [], d :: ds, s, s1, e => by simp [setN] at e
  | i :: is, [], s, s1, e => by simp [setN] at e
  | i :: is, d :: ds, s, s1, e => by simp only [setN] at e; simp [setN_len e]
theorem asgG_ok {K : PySem.W.Frag} {g : MG} {x : D} {v : V} {s s1 : SA} {Q : L2.St → Hp → Prop} (e : asgG g x s = some s1) (sr : SR S F H s σ P) (r : Rep S F H x v Emp) (hn : ∀ i ∈ g.slots, ¬ i ∈ fix)
    (q : ∀ σ2 P2, SR S F H s1 σ2 P2 → (∀ x, P2 x → P x) → Fix fix σ σ2 → Q σ2 H) : tG K g v σ H Q := by
  have gen : ∀ (is : List Nat) (ds : List D), x = .tup ds → setN s is ds = some s1 → (∀ i ∈ is, ¬ i ∈ fix) → gTup K is.length (gSlots is) v σ H Q := fun is ds ex es hn => by
    subst ex
    obtain ⟨_, p, vs, rfl, ep, rs⟩ := rep_tup.mp r
    exact ⟨p, vs, rfl, SqT.of (sr.sub _ _ ep), by rw [Reps.len rs, setN_len es], setN_ok es sr rs hn q⟩
  cases g with
  | name i =>
    simp only [asgG, Option.some.injEq] at e
    subst e
    obtain ⟨P3, sr3, sb⟩ := sr.asg (i := i) r emp_dis fun x h => h.elim
    exact q _ P3 sr3 (fun x h => (sb x h).elim (fun z => z.elim) id) (Fix.set (hn i (by simp [MG.slots])))
  | pair i j =>
    cases x <;> simp only [asgG, reduceCtorEq] at e
    exact gen [i, j] _ rfl e hn
  | trip i j k =>
    cases x <;> simp only [asgG, reduceCtorEq] at e
    exact gen [i, j, k] _ rfl e hn
  | quad i j k l =>
    cases x <;> simp only [asgG, reduceCtorEq] at e
    exact gen [i, j, k, l] _ rfl e hn
section
variable {X : Cx} {G : Env0A} {W : Nat}
theorem s_asgT {g : MG} {me : ME} {tg e : Expr} {pos : Pos} (he : PE X e (tEw S Wd G W false me)) (hg : PG X tg (tG X.K g)) (hs : swapsWithSole [tg] e pos.line X.env = pure false) (hw : swappedStores [tg] e X.env = pure none) (h1 : (assignEach [tg] X.env).map (·.2) = [assign tg X.env]) :
    PS X (.Assign [tg] e pos) (tSt S Wd G W fix (.asgT g me)) := (ps_asg he hg hs hw h1).weak fun E σ H h => by
  obtain ⟨F, P, a, sr, o⟩ := h
  simp only [ex] at o
  split at o
  · exact o.elim
  rename_i hf
  refine ⟨F, P, a, sr, o.head.imp fun d a1 e1 o1 v F1 H1 P1 Pa1 ok => ?_⟩
  obtain ⟨s1, es, o2⟩ := o1.of
  obtain ⟨sr2, sF, ex2⟩ := shares ok.sr (ok.dis rfl) (ok.fr rfl)
  have r : Rep S (take F1 H1 P1) H1 (frz d) v Emp := ok.rep.frz sF d fun x hx => take_in hx
  refine asgG_ok es sr2 r (fun i hi hm => hf (List.any_eq_true.mpr ⟨i, hi, by simpa using hm⟩)) fun σ2 P2 sr3 sb f => ?_
  exact o2 σ2 _ H1 P2 sr3 (((ok.ext2 rfl).trans ex2).less sb) f
/-- the body for whichever slots stay -/
def tSx (S : Sig) (Wd : WX) (G : Env0A) (W : Nat) (b : MSs) : TS := fun E σ H => ∃ fx, tSs S Wd G W fx b E σ H
theorem ss_any {body : List Stmt} {b : MSs} (h : ∀ fx, PSs X body (tSs S Wd G W fx b)) : PSs X body (tSx S Wd G W b) := ⟨fun pins s σ H E I q => by
  obtain ⟨fx, q⟩ := q
  exact (h fx).run pins s σ H E I q⟩
theorem s_for {g : MG} {it : MI} {mb : MSs} {tg iter : Expr} {body : List Stmt} {pos : Pos} (hp : PassesOwn (model X.prog X.w) X.A X.env X.xe) (hc : X.calm = true) (hi : PI X tg iter (tIt S (ZW S Wd) G W it)) (hg : PG X tg (tG X.K g)) (hb : ∀ fx, PSs X body (tSs S Wd G W fx mb))
    (hs : ∀ x, foldedSetIterable iter X.env x = pure x) : PS X (.For tg iter body [] pos) (tSt S Wd G W fix (.forr g it mb)) := (ps_for hp hc hi hg (ss_any hb) hs).weak fun E σ H h => by
  obtain ⟨F, P, a, sr, o⟩ := h
  simp only [ex] at o
  refine ⟨F, P, a, sr, o.head.imp fun im a1 e1 o1 J F1 H1 Pa1 sr1 ex1 sm1 hJ => ?_⟩
  cases im with
  | vals ds =>
    simp only at o1
    split at o1
    · exact o1.elim
    rename_i hf
    have hnf : ∀ i ∈ g.slots, ¬ i ∈ fix := fun i hi hm => hf (List.any_eq_true.mpr ⟨i, hi, by simpa using hm⟩)
    obtain ⟨vs, rv, hJ⟩ := hJ
    have hvl : vs.length = ds.length := Reps.len (rv H1)
    refine ⟨fun i m σ' H' => m = vs.length - i ∧ i ≤ vs.length ∧ ∃ F' P' a', SR S F' H' a' σ' P' ∧ Ext F F' H H' P P' ∧ Same F1 F' ∧ Fix fix σ σ' ∧ OutS S Wd fix F H P σ E (forL (fun s => exs G W fix mb s) g (ds.drop i) a'), ⟨vs.length, rfl, Nat.zero_le _, F1, Pa1, a1, sr1, ex1, fun _ _ z => z, Fix.rfl', o1⟩, ?_⟩
    rintro i m σ2 H2 ⟨rfl, hi, F2, P2, a2, sr2, ex2, sF2, fx2, o2⟩
    have sFH : Same F1 H2 := sF2.trans sr2.sub
    by_cases hlt : i < vs.length
    · right
      refine ⟨(hJ i H2 sFH).1 hlt, fun σ' H' => ∃ F' P' a', SR S F' H' a' σ' P' ∧ Ext F F' H H' P P' ∧ Same F1 F' ∧ Fix fix σ σ' ∧ OutS S Wd fix F H P σ E (forL (fun s => exs G W fix mb s) g (ds.drop (i + 1)) a'), fun σ' H' h => ⟨vs.length - (i + 1), by omega, rfl, by omega, h⟩, fun x H3 y => ?_⟩
      obtain ⟨rfl, ex⟩ := (hJ i H2 sFH).2.2 x H3 hlt y
      have hd : ds.drop i = ds[i] :: ds.drop (i + 1) := List.drop_eq_getElem_cons (by omega)
      rw [hd] at o2
      simp only [forL] at o2
      split at o2
      · exact o2.elim
      rename_i s1 es
      have rx : Rep S F2 H3 ds[i] x Emp := by
        obtain ⟨_, hr⟩ := Reps.at_iff.mp (rv H3)
        exact (hr i ds[i] x (by simp [hvl ▸ hlt]) ex).keep sF2 _ fun _ _ => rfl
      refine asgG_ok es sr2 rx hnf fun σ3 P3 sr3 sb3 f3 => ⟨fix, F2, P3, s1, sr3, ?_⟩
      have ex3 : Ext F F2 H H3 P P3 := ex2.less sb3
      have fx3 := fx2.trans f3
      cases eb : exs G W fix mb s1 with
      | bad => rw [eb] at o2; exact o2.elim
      | nx a3 => rw [eb] at o2; exact fun σ' F' H' Pa sr' ex' f => ⟨F', Pa, a3, sr', ex3.trans ex', sF2.trans ex'.same, fx3.trans f, o2⟩
      | ct a3 => rw [eb] at o2; exact fun σ' F' H' Pa sr' ex' f => ⟨F', Pa, a3, sr', ex3.trans ex', sF2.trans ex'.same, fx3.trans f, o2⟩
      | bk a3 => rw [eb] at o2; exact fun σ' F' H' Pa sr' ex' f => o2 σ' F' H' Pa sr' (ex3.trans ex') (fx3.trans f)
      | rz c a3 => rw [eb] at o2; exact fun σ' F' H' Pa sr' ex' f => o2 σ' F' H' Pa sr' (ex3.trans ex') (fx3.trans f)
      | rt d a3 => rw [eb] at o2; exact fun v σ' F' H' Pd Pa r sr' ex' di fr f => o2 v σ' F' H' Pd Pa r sr' (ex3.trans ex') di fr (fx3.trans f)
    · left
      refine ⟨(hJ i H2 sFH).2.1 (by omega), ?_⟩
      rw [List.drop_of_length_le (by omega)] at o2
      exact o2 σ2 F2 H2 P2 sr2 ex2 fx2
  | live j =>
    simp only at o1
    split at o1
    · exact o1.elim
    rename_i hf
    have hnf : ∀ i ∈ g.slots, ¬ i ∈ fix := fun i hi hm => hf (List.any_eq_true.mpr ⟨i, hi, by simpa using hm⟩)
    obtain ⟨p, ep, hJ⟩ := hJ
    refine ⟨fun i m σ' H' => ∃ F' P' a', SR S F' H' a' σ' P' ∧ Ext F F' H H' P P' ∧ Fix (j :: fix) σ σ' ∧ OutS S Wd fix F H P σ E (forV (fun s => exs G W (j :: fix) mb s) g j m i a'), ⟨W, F1, Pa1, a1, sr1, ex1, Fix.rfl', o1⟩, ?_⟩
    rintro i m σ2 H2 ⟨F2, P2, a2, sr2, ex2, fx2, o2⟩
    have fx2' : Fix fix σ σ2 := fun k hk => fx2 k (List.mem_cons_of_mem _ hk)
    cases m with
    | zero => exact o2.elim
    | succ n =>
      simp only [forV] at o2
      split at o2
      case h_2 => exact o2.elim
      rename_i mk ds er
      obtain ⟨w, Q1, Q2, ew, e2, di, r, _, _⟩ := sr2.rep.focus (rd_some er)
      rw [fx2 j List.mem_cons_self, ep] at ew
      cases ew
      obtain ⟨q', vs, P', eq', eh, rr⟩ := r.lst_at sr2.sub
      cases eq'
      have hvl := Reps.len rr
      obtain ⟨j1, j2, j3⟩ := hJ i H2 vs eh
      split at o2
      · rename_i en
        left
        have : ds.length ≤ i := List.getElem?_eq_none_iff.mp en
        exact ⟨j2 (by omega), o2 σ2 F2 H2 P2 sr2 ex2 fx2'⟩
      rename_i d ed
      split at o2
      case isFalse => exact o2.elim
      rename_i hc
      simp only [Bool.and_eq_true, Bool.not_eq_true'] at hc
      have hnj : ∀ i ∈ g.slots, ¬ i ∈ j :: fix := fun i hi hm => by
        rcases List.mem_cons.mp hm with rfl | hm
        · have := hc.2
          simp only [List.contains_eq_mem, decide_eq_false_iff_not] at this
          exact this hi
        · exact hnf i hi hm
      right
      have hlt : i < ds.length := (List.getElem?_eq_some_iff.mp ed).1
      refine ⟨j1 (by omega), fun σ' H' => ∃ F' P' a', SR S F' H' a' σ' P' ∧ Ext F F' H H' P P' ∧ Fix (j :: fix) σ σ' ∧ OutS S Wd fix F H P σ E (forV (fun s => exs G W (j :: fix) mb s) g j n (i + 1) a'), fun σ' H' h => ⟨n, Nat.lt_succ_self _, h⟩, fun x H3 y => ?_⟩
      obtain ⟨rfl, ex⟩ := j3 x H3 (by omega) y
      obtain ⟨x', Px, ex', rx, sbx⟩ := rr.item ed
      rw [ex] at ex'; cases ex'
      rw [rx.still d hc.1] at rx
      split at o2
      · exact o2.elim
      rename_i s1 es
      refine asgG_ok (fix := j :: fix) es sr2 rx hnj fun σ3 P3 sr3 sb3 f3 => ⟨j :: fix, F2, P3, s1, sr3, ?_⟩
      have ex3 : Ext F F2 H H3 P P3 := ex2.less sb3
      have fx3 := fx2.trans f3
      have low : ∀ {σ' : L2.St}, Fix (j :: fix) σ3 σ' → Fix fix σ σ' := fun f k hk => (fx3.trans f) k (List.mem_cons_of_mem _ hk)
      cases eb : exs G W (j :: fix) mb s1 with
      | bad => rw [eb] at o2; exact o2.elim
      | nx a3 => rw [eb] at o2; exact fun σ' F' H' Pa sr' ex' f => ⟨F', Pa, a3, sr', ex3.trans ex', fx3.trans f, o2⟩
      | ct a3 => rw [eb] at o2; exact fun σ' F' H' Pa sr' ex' f => ⟨F', Pa, a3, sr', ex3.trans ex', fx3.trans f, o2⟩
      | bk a3 => rw [eb] at o2; exact fun σ' F' H' Pa sr' ex' f => o2 σ' F' H' Pa sr' (ex3.trans ex') (low f)
      | rz c a3 => rw [eb] at o2; exact fun σ' F' H' Pa sr' ex' f => o2 σ' F' H' Pa sr' (ex3.trans ex') (low f)
      | rt d a3 => rw [eb] at o2; exact fun v σ' F' H' Pd Pa r sr' ex' di fr f => o2 v σ' F' H' Pd Pa r sr' (ex3.trans ex') di fr (low f)
end
end Ab
namespace Ab
open PySem L2
open Classical
variable {S : Sig} {Wd : WX} {Z : L2.St → Nat → Hp → Prop} {fix : List Nat} {F F' H H' : Hp} {P : Fp} {σ : L2.St} {a a' : SA}

/-! ### ways into a value -/
def Via (att : Nat → Str) (H : Hp) : List Key → V → V → Prop
  | [], w, u => w = u
  | .ix k :: ks, w, u => ∃ p xs x, w = .ref p ∧ H p = some (.lst xs) ∧ atI xs k = some x ∧ Via att H ks x u
  | .fd k :: ks, w, u => ∃ p C dx fs x, w = .ref p ∧ H p = some (.ins C dx fs) ∧ fs.lookup (att k) = some x ∧ Via att H ks x u
theorem Via.up {att : Nat → Str} (sH : Same H H') : ∀ {ks : List Key} {w u : V}, Via att H ks w u → Via att H' ks w u
  | [], w, u, h => h
  | .ix k :: ks, w, u, ⟨p, xs, x, e1, e2, e3, h⟩ => ⟨p, xs, x, e1, sH _ _ e2, e3, Via.up sH h⟩
  | .fd k :: ks, w, u, ⟨p, C, dx, fs, x, e1, e2, e3, h⟩ => ⟨p, C, dx, fs, x, e1, sH _ _ e2, e3, Via.up sH h⟩
theorem Via.inj {att : Nat → Str} : ∀ {ks : List Key} {w u u' : V}, Via att H ks w u → Via att H ks w u' → u = u'
  | [], w, u, u', h, h' => h.symm.trans h'
  | .ix k :: ks, w, u, u', ⟨p, xs, x, e1, e2, e3, h⟩, ⟨p', xs', x', f1, f2, f3, h'⟩ => by
    subst e1; cases f1
    rw [e2] at f2; cases f2
    rw [e3] at f3; cases f3
    exact Via.inj h h'
  | .fd k :: ks, w, u, u', ⟨p, C, dx, fs, x, e1, e2, e3, h⟩, ⟨p', C', dx', fs', x', f1, f2, f3, h'⟩ => by
    subst e1; cases f1
    rw [e2] at f2; cases f2
    rw [e3] at f3; cases f3
    exact Via.inj h h'
theorem Via.snoc {att : Nat → Str} {k : Key} : ∀ {ks : List Key} {w x : V}, Via att H (ks ++ [k]) w x → ∃ u, Via att H ks w u ∧ Via att H [k] u x
  | [], w, x, h => ⟨w, rfl, h⟩
  | .ix i :: ks, w, x, ⟨p, xs, y, e1, e2, e3, h⟩ => by
    obtain ⟨u, h1, h2⟩ := Via.snoc h
    exact ⟨u, ⟨p, xs, y, e1, e2, e3, h1⟩, h2⟩
  | .fd i :: ks, w, x, ⟨p, C, dx, fs, y, e1, e2, e3, h⟩ => by
    obtain ⟨u, h1, h2⟩ := Via.snoc h
    exact ⟨u, ⟨p, C, dx, fs, y, e1, e2, e3, h1⟩, h2⟩
theorem atI_of {ds : List D} {vs : List V} {k : Int} {j : Nat} {v : V} (hl : vs.length = ds.length) (hj : ixN ds.length k = some j) (e : vs[j]? = some v) : atI vs k = some v := by
  unfold atI
  rw [hl, hj]
  exact e
theorem fld_at {K : PySem.W.Frag} {att : Nat → Str} {c k j : Nat} {cl : Cl} {vs : List V} {v : V} (hC : ClsOk K att S) (hc : S.cls c = some cl) (hj : fldIx c k = some j) (e : vs[j]? = some v) : (cl.fields.zip vs).lookup (att k) = some v := by
  obtain ⟨k1, k2, k3, _, k4⟩ := hC.cls c cl hc
  exact lookup_zip k3 (by rw [k2, List.getElem?_map, fldIx_at hj]; rfl) e
/-- the way is there -/
theorem Rep.way {K : PySem.W.Frag} {att : Nat → Str} (hC : ClsOk K att S) (sub : Same F H) : ∀ {ks : List Key} {d e : D} {v : V} {P : Fp}, Rep S F H d v P → getP ks d = some e → ∃ u P1, Via att H ks v u ∧ Rep S F H e u P1
  | [], d, e, v, P, r, h => by cases h; exact ⟨v, P, rfl, r⟩
  | .ix k :: ks, d, e, v, P, r, h => by
    cases d <;> first | (simp only [getP, reduceCtorEq] at h; done) | skip
    rename_i m ds
    cases m <;> simp only [getP, reduceCtorEq, Option.bind_eq_some_iff] at h
    obtain ⟨j, hj, x, hx, h⟩ := h
    obtain ⟨p, vs, P', rfl, ep, rs⟩ := r.lst_at sub
    obtain ⟨w, P1, ew, rw', _⟩ := rs.item hx
    obtain ⟨u, P2, hv, ru⟩ := Rep.way hC sub rw' h
    exact ⟨u, P2, ⟨p, vs, w, rfl, ep, atI_of (Reps.len rs) hj ew, hv⟩, ru⟩
  | .fd k :: ks, d, e, v, P, r, h => by
    cases d <;> first | (simp only [getP, reduceCtorEq] at h; done) | skip
    rename_i m c ds
    cases m <;> simp only [getP, reduceCtorEq, Option.bind_eq_some_iff] at h
    obtain ⟨j, hj, x, hx, h⟩ := h
    obtain ⟨p, cl, dx, vs, P', rfl, hc, hl, ep, rs, _⟩ := r.ins_at sub
    obtain ⟨w, P1, ew, rw', _⟩ := rs.item hx
    obtain ⟨u, P2, hv, ru⟩ := Rep.way hC sub rw' h
    exact ⟨u, P2, ⟨p, _, dx, _, w, rfl, ep, fld_at hC hc hj ew, hv⟩, ru⟩
theorem list_set_self {α : Type} {xs : List α} {j : Nat} {x : α} (h : xs[j]? = some x) : xs.set j x = xs := by
  apply List.ext_getElem?
  intro i
  by_cases hi : j = i
  · subst hi
    rw [List.getElem?_set_self (List.getElem?_eq_some_iff.mp h).1, h]
  · rw [List.getElem?_set_ne hi]
/-- a value changed at the end of a way -/
theorem Rep.path {K : PySem.W.Frag} {att : Nat → Str} (hC : ClsOk K att S) (sub : Same F H) : ∀ {ks : List Key} {d d' : D} {f : D → Option D} {v : V} {P : Fp}, Rep S F H d v P → updD ks f d = some d' →
    ∃ u e e' P1 P2, Via att H ks v u ∧ f e = some e' ∧ P = Uni P1 P2 ∧ Dis P1 P2 ∧ Rep S F H e u P1 ∧ ∀ (F' H' : Hp) (P1' : Fp), Same F F' → (∀ x, P2 x → H' x = H x) → Rep S F' H' e' u P1' → Dis P1' P2 → Rep S F' H' d' v (Uni P1' P2)
  | [], d, d', f, v, P, r, h => ⟨v, d, d', P, Emp, rfl, h, (uni_emp _).symm, dis_emp, r, fun F' H' P1' _ _ r' _ => by rw [uni_emp]; exact r'⟩
  | .ix k :: ks, d, d', f, v, P, r, h => by
    cases d <;> first | (simp only [updD, reduceCtorEq] at h; done) | skip
    rename_i m ds
    cases m <;> simp only [updD, reduceCtorEq, Option.bind_eq_some_iff, Option.map_eq_some_iff] at h
    obtain ⟨j, hj, x, hx, x', hx', rfl⟩ := h
    simp only [Rep] at r
    obtain ⟨p, vs, rfl, r⟩ := r
    rw [if_pos trivial] at r
    obtain ⟨ep, pp, P', np, rfl, rs⟩ := r
    have hlen := Reps.len rs
    obtain ⟨w, Q1, Q2, ew, rfl, dq, rx, put⟩ := rs.hole hx
    obtain ⟨u, e, e', R1, R2, via, he, rfl, dr, re, up⟩ := Rep.path hC sub rx hx'
    refine ⟨u, e, e', R1, Uni (One p) (Uni R2 Q2), ⟨p, vs, w, rfl, ep, atI_of hlen hj ew, via⟩, he, ?_, ?_, re, fun F' H' P1' sF kp r' n => ?_⟩
    · show Uni (One p) (Uni (Uni R1 R2) Q2) = _
      rw [uni_assoc, uni_left_comm]
    · refine Dis.uni' (fun y h1 h2 => np ?_) (Dis.uni' dr fun y h1 h2 => dq y (.inl h1) h2)
      have h2 : y = p := h2
      rw [← h2]; exact .inl (.inl h1)
    · have r2 := up F' H' P1' sF (fun y hy => kp y (.inr (.inl hy))) r' fun y h1 h2 => n y h1 (.inr (.inl h2))
      have r3 := put F' H' x' w _ sF (fun y hy => kp y (.inr (.inr hy))) r2 (Dis.uni (fun y h1 h2 => n y h1 (.inr (.inr h2))) fun y h1 h2 => dq y (.inr h1) h2)
      rw [list_set_self ew] at r3
      simp only [Rep]
      refine ⟨p, vs, rfl, ?_⟩
      rw [if_pos trivial]
      refine ⟨(kp p (.inl rfl)).trans ep, .inr (.inl rfl), _, fun z => ?_, ?_, r3⟩
      · rcases z with (z | z) | z
        · exact n p z (.inl rfl)
        · exact np (.inl (.inr z))
        · exact np (.inr z)
      · show Uni P1' (Uni (One p) (Uni R2 Q2)) = Uni (One p) (Uni (Uni P1' R2) Q2)
        rw [uni_left_comm, uni_assoc]
  | .fd k :: ks, d, d', f, v, P, r, h => by
    cases d <;> first | (simp only [updD, reduceCtorEq] at h; done) | skip
    rename_i m c ds
    cases m <;> simp only [updD, reduceCtorEq, Option.bind_eq_some_iff, Option.map_eq_some_iff] at h
    obtain ⟨j, hj, x, hx, x', hx', rfl⟩ := h
    simp only [Rep] at r
    obtain ⟨p, cl, dx, vs, rfl, hc, hl, r⟩ := r
    rw [if_pos trivial] at r
    obtain ⟨ep, pp, P', np, rfl, rs⟩ := r
    obtain ⟨w, Q1, Q2, ew, rfl, dq, rx, put⟩ := rs.hole hx
    obtain ⟨u, e, e', R1, R2, via, he, rfl, dr, re, up⟩ := Rep.path hC sub rx hx'
    refine ⟨u, e, e', R1, Uni (One p) (Uni R2 Q2), ⟨p, _, dx, _, w, rfl, ep, fld_at hC hc hj ew, via⟩, he, ?_, ?_, re, fun F' H' P1' sF kp r' n => ?_⟩
    · show Uni (One p) (Uni (Uni R1 R2) Q2) = _
      rw [uni_assoc, uni_left_comm]
    · refine Dis.uni' (fun y h1 h2 => np ?_) (Dis.uni' dr fun y h1 h2 => dq y (.inl h1) h2)
      have h2 : y = p := h2
      rw [← h2]; exact .inl (.inl h1)
    · have r2 := up F' H' P1' sF (fun y hy => kp y (.inr (.inl hy))) r' fun y h1 h2 => n y h1 (.inr (.inl h2))
      have r3 := put F' H' x' w _ sF (fun y hy => kp y (.inr (.inr hy))) r2 (Dis.uni (fun y h1 h2 => n y h1 (.inr (.inr h2))) fun y h1 h2 => dq y (.inr h1) h2)
      rw [list_set_self ew] at r3
      simp only [Rep]
      refine ⟨p, cl, dx, vs, rfl, hc, by rw [List.length_set]; exact hl, ?_⟩
      rw [if_pos trivial]
      refine ⟨(kp p (.inl rfl)).trans ep, .inr (.inl rfl), _, fun z => ?_, ?_, r3⟩
      · rcases z with (z | z) | z
        · exact n p z (.inl rfl)
        · exact np (.inl (.inr z))
        · exact np (.inr z)
      · show Uni P1' (Uni (One p) (Uni R2 Q2)) = Uni (One p) (Uni (Uni P1' R2) Q2)
        rw [uni_left_comm, uni_assoc]
/-- in a slot -/
theorem SR.path {K : PySem.W.Frag} {att : Nat → Str} (hC : ClsOk K att S) (sr : SR S F H a σ P) {i : Nat} {ks : List Key} {f : D → Option D} (h : updS i ks f a = some a') :
    ∃ w u e e' P1 P2, σ[i]? = some (some w) ∧ Via att H ks w u ∧ f e = some e' ∧ P = Uni P1 P2 ∧ Dis P1 P2 ∧ Rep S F H e u P1 ∧ ∀ (F' H' : Hp) (P1' : Fp), Same F F' → (∀ x, P2 x → H' x = H x) → Rep S F' H' e' u P1' → Dis P1' P2 → RepS S F' H' a' σ (Uni P1' P2) := by
  simp only [updS, Option.bind_eq_some_iff, Option.map_eq_some_iff] at h
  obtain ⟨d, hd, d', hd', rfl⟩ := h
  obtain ⟨w, P1, P2, e1, rfl, di, r, h2, put⟩ := sr.rep.focus (rd_some hd)
  obtain ⟨u, e, e', R1, R2, via, he, rfl, dr, re, up⟩ := Rep.path hC sr.sub r hd'
  refine ⟨w, u, e, e', R1, Uni R2 P2, e1, via, he, uni_assoc _ _ _, Dis.uni' dr fun x h1 h2 => di x (.inl h1) h2, re, fun F' H' P1' sF kp r' n => ?_⟩
  have r2 := up F' H' P1' sF (fun y hy => kp y (.inl hy)) r' fun y h1 h2 => n y h1 (.inl h2)
  have := put F' H' P2 (h2.keep sF fun y hy => kp y (.inr hy)) d' _ r2 (Dis.uni (fun y h1 h2 => n y h1 (.inr h2)) fun y h1 h2 => di y (.inr h1) h2)
  rwa [uni_assoc] at this
/-- an own list, written -/
theorem SR.write {K : PySem.W.Frag} {att : Nat → Str} {Pd : Fp} {T : List V → List V → Prop} (hC : ClsOk K att S) (sr : SR S F H a σ P) (da : Dis Pd P) (fr : ∀ x, Pd x → F x = none) {i : Nat} {ks : List Key} {f : D → Option D} (h : updS i ks f a = some a')
    (hf : ∀ e e', f e = some e' → ∃ ds ds', e = .lst true ds ∧ e' = .lst true ds' ∧ ∀ vs Q, Reps S F H ds vs Q → Dis Pd Q → ∃ vs' Q', T vs vs' ∧ Reps S F H ds' vs' Q' ∧ ∀ x, Q' x → Uni Pd Q x) :
    ∃ w p vs vs' P', σ[i]? = some (some w) ∧ Via att H ks w (.ref p) ∧ H p = some (.lst vs) ∧ T vs vs' ∧ SR S F (upd H p (.lst vs')) a' σ P' ∧ (∀ x, P' x → Uni Pd P x) ∧ Ext F F H (upd H p (.lst vs')) (Uni Pd P) P' := by
  obtain ⟨w, u, e, e', P1, P2, e1, via, he, rfl, di, re, up⟩ := sr.path hC h
  obtain ⟨ds, ds', rfl, rfl, hr⟩ := hf e e' he
  simp only [Rep] at re
  obtain ⟨p, vs, rfl, re⟩ := re
  rw [if_pos trivial] at re
  obtain ⟨ep, pp, P', np, rfl, rs⟩ := re
  obtain ⟨vs', Q', ht, rs', sb⟩ := hr vs P' rs fun x h1 h2 => da x h1 (.inl (.inr h2))
  have nQ : ¬ Q' p := fun z => (sb p z).elim (fun y => da p y (.inl (.inl rfl))) np
  have n2 : ¬ P2 p := fun z => di p (.inl rfl) z
  have rl : Rep S F (upd H p (.lst vs')) (.lst true ds') (.ref p) (Uni (fun x => x = p) Q') := by
    simp only [Rep]
    refine ⟨p, vs', rfl, ?_⟩
    rw [if_pos trivial]
    exact ⟨upd_same, .inl rfl, Q', nQ, rfl, Reps.keep (fun _ _ z => z) _ rs' fun x hx => upd_ne fun z => nQ (z ▸ hx)⟩
  have sbA : ∀ x, Uni (Uni (fun x => x = p) Q') P2 x → Uni Pd (Uni (Uni (fun x => x = p) P') P2) x := fun x h => by
    rcases h with (h | h) | h
    · exact .inr (.inl (.inl h))
    · exact (sb x h).elim .inl fun z => .inr (.inl (.inr z))
    · exact .inr (.inr h)
  have rS := up F (upd H p (.lst vs')) _ (fun _ _ z => z) (fun x hx => upd_ne fun z => n2 (z ▸ hx)) rl (Dis.uni (fun x h1 h2 => by have h1 : x = p := h1; rw [h1] at h2; exact n2 h2) fun x h1 h2 => (sb x h1).elim (fun z => da x z (.inr h2)) fun z => di x (.inr z) h2)
  refine ⟨w, p, vs, vs', _, e1, via, ep, ht, ⟨rS, fun x h => (sbA x h).elim (fr x) (sr.fr x), fun x q e => ?_⟩, sbA, (Ext.updIn (show Uni Pd (Uni (Uni (fun x => x = p) P') P2) p from .inr (.inl (.inl rfl)))).less sbA⟩
  have hFp : F p = none := sr.fr p (.inl (.inl rfl))
  rw [upd_ne (show x ≠ p from fun z => by rw [z, hFp] at e; cases e)]
  exact sr.sub x q e
end Ab
namespace Ab
open PySem L2
open Classical
variable {S : Sig} {Wd : WX} {Z : L2.St → Nat → Hp → Prop} {fix : List Nat} {F F' H H' : Hp} {P : Fp} {σ : L2.St} {a a' : SA}

theorem Reps.revP : ∀ {xs : List D} {vs : List V} {P : Fp}, Reps S F H xs vs P → Reps S F H xs.reverse vs.reverse P
  | [], vs, P, r => by
    simp only [Reps] at r
    obtain ⟨rfl, rfl⟩ := r
    simp only [List.reverse_nil, Reps]
    exact ⟨trivial, trivial⟩
  | x :: xs, vs, P, r => by
    simp only [Reps] at r
    obtain ⟨v, vr, P1, P2, rfl, rfl, di, r1, r2⟩ := r
    rw [List.reverse_cons, List.reverse_cons, uni_comm]
    exact (Reps.revP r2).snoc r1 di.symm
def AtP (att : Nat → Str) (H : Hp) (σ : L2.St) (q : Nat × List Key) (u : V) : Prop := ∃ w, σ[q.1]? = some (some w) ∧ Via att H q.2 w u
theorem AtP.inj {att : Nat → Str} {q : Nat × List Key} {u u' : V} (h : AtP att H σ q u) (h' : AtP att H σ q u') : u = u' := by
  obtain ⟨w, e, v⟩ := h
  obtain ⟨w', e', v'⟩ := h'
  rw [e] at e'; cases e'
  exact v.inj v'
/-- the path's value, as it lies -/
theorem SR.at_ {K : PySem.W.Frag} {att : Nat → Str} (hC : ClsOk K att S) (sr : SR S F H a σ P) {q : Nat × List Key} {e : D} (h : (rd a q.1).bind (getP q.2) = some e) : ∃ u P1, AtP att H σ q u ∧ Rep S F H e u P1 := by
  simp only [Option.bind_eq_some_iff] at h
  obtain ⟨d, hd, he⟩ := h
  obtain ⟨w, P1, P2, e1, e2, di, r, _, _⟩ := sr.rep.focus (rd_some hd)
  obtain ⟨u, P3, via, ru⟩ := r.way hC sr.sub he
  exact ⟨u, P3, ⟨w, e1, via⟩, ru⟩
section
variable {X : Cx} {G : Env0A} {W : Nat} {att : Nat → Str}
def tP (att : Nat → Str) (S : Sig) (Z : L2.St → Nat → Hp → Prop) (G : Env0A) (W : Nat) (p : ME) : TE := fun σ H Q => ∃ F P a, SR S F H a σ P ∧
  Out S (Z σ) F H P σ (fun q a' => ∀ u F' H' Pa, SR S F' H' a' σ Pa → Ext F F' H H' P Pa → (pureE p = true → Same H H') → AtP att H' σ q u → Q u H') (evP G W p a)
theorem chkP_out {q : Nat × List Key} {K : Nat × List Key → SA → Prop} (o : Out S (Z σ) F H P σ K (chkP q a)) : K q a ∧ ∃ e, (rd a q.1).bind (getP q.2) = some e := by
  unfold chkP at o
  split at o
  · rename_i e he
    exact ⟨o, e, he⟩
  · exact o.elim
theorem p_slot {i : Nat} {x : Str} {pos : Pos} (hN : X.N[i]? = some x) (hv : Vis X.env.scope x) (hd : (x == ("__debug__" : Str)) = false) (hcd : (x == ("__classdict__" : Str)) = false) : PE X (.Name x pos) (tP att S Z G W (.slot i)) := (pe_var hN hv hd hcd).weak fun σ H Q h => by
  obtain ⟨F, P, a, sr, o⟩ := h
  simp only [evP] at o
  obtain ⟨q, e, he⟩ := chkP_out o
  simp only [Option.bind_eq_some_iff] at he
  obtain ⟨d, hd, _⟩ := he
  obtain ⟨w, P1, P2, e1, _⟩ := sr.rep.focus (rd_some hd)
  exact ⟨w, e1, q w F H P sr .refl (fun _ _ _ z => z) ⟨w, e1, rfl⟩⟩
end
end Ab
namespace Ab
open PySem L2
open Classical
variable {S : Sig} {Wd : WX} {Z : L2.St → Nat → Hp → Prop} {fix : List Nat} {F F' H H' : Hp} {P : Fp} {σ : L2.St} {a a' : SA}

/-! ### writing statements -/
section
variable {X : Cx} {G : Env0A} {W : Nat} {att : Nat → Str}
theorem sw_other {e : Expr} {t : Expr} {l : Nat} {env : Env} (h : (match t with | .Name _ _ => false | _ => true) = true) : swapsWith e (some t) l env = pure false := by
  unfold swapsWith
  cases e <;> first | rfl | (cases t <;> first | rfl | (simp at h))
theorem via_at {q : Nat × List Key} {u : V} {H2 H3 : Hp} (h : AtP att H2 σ q u) (hs : Same H2 H3 ∨ q.2 = []) : AtP att H3 σ q u := by
  obtain ⟨w, e, v⟩ := h
  rcases hs with hs | hs
  · exact ⟨w, e, v.up hs⟩
  · rw [hs] at v
    exact ⟨w, e, by rw [hs]; exact v⟩
theorem lstP_at {q : Nat × List Key} (hC : ClsOk X.K att S) (sr : SR S F H a σ P) (h : lstP q a = true) {u : V} (at_ : AtP att H σ q u) : ∃ p vs, u = .ref p ∧ H p = some (.lst vs) := by
  unfold lstP at h
  split at h
  · rename_i ds e
    obtain ⟨u', P1, at', r⟩ := sr.at_ hC e
    have := at_.inj at'
    subst this
    obtain ⟨p, vs, P', rfl, ep, _⟩ := r.lst_at sr.sub
    exact ⟨p, vs, rfl, ep⟩
  · cases h
theorem s_append {mp me : ME} {o e : Expr} {apos p1 pos : Pos} (hC : ClsOk X.K att S) (ho : PE X o (tP att S (ZW S Wd) G W mp)) (he : PE X e (tEw S Wd G W false me)) (hb : baseOk o = true) (hst : noStar e = true) (hl : (apos.endLine == p1.line) = true) :
    PS X (.Expr (.Call (.Attribute o "append" apos) [e] [] p1) pos) (tSt S Wd G W fix (.append mp me)) :=
  (ps_expr (pe_bm PySem.F.plainAttrs_list PySem.F.slot_list_append PySem.F.type_list_append mt_append ho (pa_cons he pa_nil (star_cons hst)) (base_of hb) (few1 hst) hl (star_cons hst) rfl) rfl).weak fun E σ H h => by
    obtain ⟨F, P, a, sr, out⟩ := h
    simp only [ex] at out
    refine ⟨F, P, a, sr, out.head.imp fun q a1 e1 o1 u F1 H1 Pa1 sr1 ex1 sm1 at1 => ?_⟩
    split at o1
    case isFalse => exact o1.elim
    rename_i hL
    obtain ⟨p0, vs0, rfl, ep0⟩ := lstP_at hC sr1 hL at1
    refine ⟨.inl ⟨rfl, vs0, SqL.of ep0⟩, F1, Pa1, a1, sr1, (o1.head.at ex1).imp fun d a2 e2 o2 v F2 H2 P2 Pa2 ok2 => ?_⟩
    split at o2
    case isFalse => exact o2.elim
    rename_i hp
    obtain ⟨s, es, o4⟩ := o2.of
    obtain ⟨w, p, vs, vs', P', ew, via, ep, ⟨hz, rfl⟩, sr4, sb, ex4⟩ := ok2.sr.write (T := fun vs vs' => vs.length < sizeLine ∧ vs' = vs ++ [v]) hC (ok2.dis rfl) (ok2.fr rfl) es fun e e' hf => by
      cases e <;> first | (simp only [fApp, reduceCtorEq] at hf; done) | skip
      rename_i m ds
      cases m <;> simp only [fApp, reduceCtorEq] at hf
      split at hf
      case isFalse => cases hf
      rename_i hz
      cases hf
      refine ⟨ds, ds ++ [d], rfl, rfl, fun vs Q rs dq => ⟨vs ++ [v], Uni Q P2, ⟨?_, rfl⟩, rs.snoc ok2.rep dq.symm, fun y h => h.elim .inr .inl⟩⟩
      rw [Reps.len rs]; simpa [line] using hz
    have eu : V.ref p0 = .ref p := (via_at at1 (by
      rcases Bool.or_eq_true .. |>.mp hp with h | h
      · exact .inl (ok2.same h)
      · exact .inr (by simpa using h))).inj ⟨w, ew, via⟩
    cases eu
    exact ⟨p0, vs, v, rfl, rfl, ep, hz, o4 σ F2 _ P' sr4 ((ex1.trans (ok2.ext2 rfl)).trans ex4) Fix.rfl'⟩
theorem s_reverse {mp : ME} {o : Expr} {apos p1 pos : Pos} (hC : ClsOk X.K att S) (ho : PE X o (tP att S (ZW S Wd) G W mp)) (hb : baseOk o = true) (hl : (apos.endLine == p1.line) = true) :
    PS X (.Expr (.Call (.Attribute o "reverse" apos) [] [] p1) pos) (tSt S Wd G W fix (.reverse mp)) :=
  (ps_expr (pe_bm0 PySem.F.plainAttrs_list PySem.F.slot_list_reverse PySem.F.type_list_reverse mt_reverse ho (base_of hb) hl) rfl).weak fun E σ H h => by
    obtain ⟨F, P, a, sr, out⟩ := h
    simp only [ex] at out
    refine ⟨F, P, a, sr, out.head.imp fun q a1 e1 o1 u F1 H1 Pa1 sr1 ex1 sm1 at1 => ?_⟩
    split at o1
    case isFalse => exact o1.elim
    rename_i hL
    obtain ⟨p0, vs0, rfl, ep0⟩ := lstP_at hC sr1 hL at1
    obtain ⟨s, es, o4⟩ := o1.of
    obtain ⟨w, p, vs, vs', P', ew, via, ep, rfl, sr4, sb, ex4⟩ := sr1.write (Pd := Emp) (T := fun vs vs' => vs' = vs.reverse) hC emp_dis (fun x h => h.elim) es fun e e' hf => by
      cases e <;> first | (simp only [fRev, reduceCtorEq] at hf; done) | skip
      rename_i m ds
      cases m <;> simp only [fRev, reduceCtorEq, Option.some.injEq] at hf
      subst hf
      exact ⟨ds, ds.reverse, rfl, rfl, fun vs Q rs _ => ⟨vs.reverse, Q, rfl, rs.revP, fun y h => .inr h⟩⟩
    have eu : V.ref p0 = .ref p := at1.inj ⟨w, ew, via⟩
    cases eu
    rw [emp_uni] at ex4
    exact ⟨.inl ⟨rfl, vs0, SqL.of ep0⟩, p0, vs, rfl, rfl, ep, o4 σ F1 _ P' sr4 (ex1.trans ex4) Fix.rfl'⟩
end
end Ab
namespace Ab
open PySem L2
open Classical
variable {S : Sig} {Wd : WX} {Z : L2.St → Nat → Hp → Prop} {fix : List Nat} {F F' H H' : Hp} {P : Fp} {σ : L2.St} {a a' : SA}

section
variable {X : Cx} {G : Env0A} {W : Nat} {att : Nat → Str}
theorem s_setI {mp mi me : ME} {o i e : Expr} {p1 pos : Pos} (hC : ClsOk X.K att S) (ho : PE X o (tP att S (ZW S Wd) G W mp)) (hi : PE X i (tEw S Wd G W true mi)) (he : PE X e (tEw S Wd G W false me))
    (ha : ∀ v, assign (.Subscript o i p1) X.env v = (do
      let ov ← holding [v] (eval o X.env)
      let iv ← holding [v, ov] (eval i X.env)
      standAt p1
      holding [v, ov, iv] (setItem ov iv v)
      release [v, ov, iv] [])) : PS X (.Assign [.Subscript o i p1] e pos) (tSt S Wd G W fix (.setI mp mi me)) :=
  (ps_asg he (pg_sub ho hi set_list ha) (show swapsWithSole [.Subscript o i p1] e pos.line X.env = pure false from sw_other (t := .Subscript o i p1) (l := pos.line) (env := X.env) rfl) rfl rfl).weak fun E σ H h => by
    obtain ⟨F, P, a, sr, out⟩ := h
    simp only [ex] at out
    refine ⟨F, P, a, sr, out.head.imp fun d a1 e1 o1 v F1 H1 P1 Pa1 ok1 => ⟨F1, Pa1, a1, ok1.sr, (o1.head.at ok1.ext).imp fun q a2 e2 o2 u F2 H2 Pa2 sr2 ex2 sm2 at2 => ⟨F2, Pa2, a2, sr2, (o2.head.at (ok1.ext.trans ex2)).imp fun k a3 e3 o3 vk F3 H3 Pk Pa3 ok3 => ?_⟩⟩⟩
    cases k <;> try exact o3.elim
    rename_i k
    simp only at o3
    split at o3
    case isFalse => exact o3.elim
    rename_i hp
    obtain ⟨s, es, o4⟩ := o3.of
    obtain ⟨rfl, _⟩ := rep_int.mp ok3.rep
    have ex23 := ex2.trans ok3.ext
    have held := ok1.rep.held d
    have r3 := ex23.aside ok1.rep (ok1.dis rfl)
    have d3 := ex23.dis (ok1.dis rfl) held
    have f3 := ex23.unf (ok1.dis rfl) held (ok1.rep.notup d) (ok1.fr rfl)
    obtain ⟨w, p, vs, vs', P', ew, via, ep, ⟨j, hj, rfl⟩, sr4, sb, ex4⟩ := ok3.sr.write (T := fun vs vs' => ∃ j, ixN vs.length k = some j ∧ vs' = vs.set j v) hC d3 f3 es fun e e' hf => by
      cases e <;> first | (simp only [fSet, reduceCtorEq] at hf; done) | skip
      rename_i m ds
      cases m <;> simp only [fSet, reduceCtorEq, Option.map_eq_some_iff] at hf
      obtain ⟨j, hj, rfl⟩ := hf
      refine ⟨ds, ds.set j d, rfl, rfl, fun vs Q rs dq => ?_⟩
      have hlt := (ixN_seq hj).2.1
      obtain ⟨x, Q1, Q2, ex', rfl, d12, rx, put⟩ := rs.hole (List.getElem?_eq_getElem hlt)
      exact ⟨vs.set j v, Uni P1 Q2, ⟨j, by rw [Reps.len rs]; exact hj, rfl⟩, put F3 H3 d v P1 (fun _ _ z => z) (fun _ _ => rfl) r3 fun y h1 h2 => dq y h1 (.inr h2), fun y h => h.elim .inl fun z => .inr (.inr z)⟩
    have eu : u = .ref p := (via_at at2 (by
      rcases Bool.or_eq_true .. |>.mp hp with h | h
      · exact .inl (ok3.same h)
      · exact .inr (by simpa using h))).inj ⟨w, ew, via⟩
    subst eu
    have fr := ex23.frame (R := P1)
    rw [uni_comm Pa1 P1, uni_comm Pa3 P1] at fr
    exact ⟨p, vs, k, j, rfl, rfl, ep, hj, o4 σ F3 _ P' sr4 (((ok1.ext2 rfl).trans fr).trans ex4) Fix.rfl'⟩
end
end Ab
namespace Ab
open PySem L2
open Classical
variable {S : Sig} {Wd : WX} {Z : L2.St → Nat → Hp → Prop} {fix : List Nat} {F F' H H' : Hp} {P : Fp} {σ : L2.St} {a a' : SA}

theorem putF_set {f : Str} {y : V} : ∀ {N : List Str} {vs : List V} {j : Nat}, N.Nodup → N[j]? = some f → j < vs.length → putF f y (N.zip vs) = N.zip (vs.set j y)
  | [], vs, j, nd, h, hl => by simp at h
  | x :: N, [], j, nd, h, hl => by simp at hl
  | x :: N, v :: vs, 0, nd, h, hl => by
    simp at h; subst h
    simp [putF]
  | x :: N, v :: vs, j + 1, nd, h, hl => by
    have hx : x ≠ f := fun e => (List.nodup_cons.mp nd).1 (by rw [e]; exact List.mem_of_getElem? (by simpa using h))
    simp only [List.zip_cons_cons, List.set_cons_succ, putF, if_neg hx]
    rw [putF_set (List.nodup_cons.mp nd).2 (by simpa using h) (by simpa using hl)]
theorem putF_app {f : Str} {y : V} : ∀ {N : List Str} {vs : List V}, N.Nodup → N[vs.length]? = some f → putF f y (N.zip vs) = N.zip (vs ++ [y])
  | [], vs, nd, h => by simp at h
  | x :: N, [], nd, h => by
    simp at h; subst h
    simp [putF]
  | x :: N, v :: vs, nd, h => by
    have hx : x ≠ f := fun e => (List.nodup_cons.mp nd).1 (by rw [e]; exact List.mem_of_getElem? (by simpa using h))
    simp only [List.zip_cons_cons, List.cons_append, putF, if_neg hx]
    rw [putF_app (List.nodup_cons.mp nd).2 (by simpa using h)]
section
variable {X : Cx} {G : Env0A} {W : Nat} {att : Nat → Str}
theorem s_setF {oi k : Nat} {me : ME} {x : Str} {e : Expr} {p1 p2 pos : Pos} (hC : ClsOk X.K att S) (hN : X.N[oi]? = some x) (hv : Vis X.env.scope x) (hd : (x == ("__debug__" : Str)) = false) (hcd : (x == ("__classdict__" : Str)) = false) (he : PE X e (tEw S Wd G W false me)) :
    PS X (.Assign [.Attribute (.Name x p1) (att k) p2] e pos) (tSt S Wd G W fix (.setF oi k me)) :=
  (ps_fld (pe_var hN hv hd hcd) he (sw_other (t := .Attribute (.Name x p1) (att k) p2) (l := pos.line) (env := X.env) rfl)).weak fun E σ H h => by
    obtain ⟨F, P, a, sr, out⟩ := h
    simp only [ex] at out
    refine ⟨F, P, a, sr, out.head.imp fun d a1 e1 o1 v F1 H1 P1 Pa1 ok1 => ?_⟩
    obtain ⟨s, es, o4⟩ := o1.of
    obtain ⟨w, u, n, n', R1, R2, ew, via, hf, eP, di, re, up⟩ := ok1.sr.path hC es
    cases via
    cases n <;> first | (simp only [fFld, reduceCtorEq] at hf; done) | skip
    rename_i m c ds
    cases m <;> simp only [fFld, reduceCtorEq, Option.bind_eq_some_iff] at hf
    obtain ⟨j, hj, hf⟩ := hf
    simp only [Rep] at re
    obtain ⟨p, cl, dx, vs, rfl, hc, hl, re⟩ := re
    rw [if_pos trivial] at re
    obtain ⟨ep, _, P', np, rfl, rs⟩ := re
    obtain ⟨k1, k2, k3, k5, k4⟩ := hC.cls c cl hc
    have ef : cl.fields[j]? = some (att k) := by rw [k2, List.getElem?_map, fldIx_at hj]; rfl
    have hvl := Reps.len rs
    have dPa := ok1.dis rfl
    have d1 : Dis P1 P' := fun x h1 h2 => dPa x h1 (by rw [eP]; exact .inl (.inr h2))
    have np1 : ¬ P1 p := fun z => dPa p z (by rw [eP]; exact .inl (.inl rfl))
    -- the fields as they are stored
    obtain ⟨ds', vs', Q', rfl, ez, rs', sb, hl'⟩ : ∃ ds' vs' Q', n' = .ins true c ds' ∧ putF (att k) v (cl.fields.zip vs) = cl.fields.zip vs' ∧ Reps S F1 H1 ds' vs' Q' ∧ (∀ x, Q' x → Uni P1 P' x) ∧ ds'.length ≤ cl.fields.length := by
      split at hf
      · rename_i hlt
        cases hf
        obtain ⟨x0, Q1, Q2, ex', rfl, d12, rx, put⟩ := rs.hole (List.getElem?_eq_getElem hlt)
        exact ⟨_, vs.set j v, Uni P1 Q2, rfl, putF_set k3 ef (by omega), put F1 H1 d v P1 (fun _ _ z => z) (fun _ _ => rfl) ok1.rep fun y h1 h2 => d1 y h1 (.inr h2), fun y h => h.elim .inl fun z => .inr (.inr z), by rw [List.length_set]; exact hl⟩
      · split at hf
        · rename_i _ hje
          cases hf
          refine ⟨_, vs ++ [v], Uni P' P1, rfl, putF_app k3 (by rw [hvl, ← hje]; exact ef), rs.snoc ok1.rep d1.symm, fun y h => h.elim .inr .inl, ?_⟩
          have := (List.getElem?_eq_some_iff.mp ef).1
          rw [List.length_append, List.length_singleton]
          omega
        · cases hf
    have nQ : ¬ Q' p := fun z => (sb p z).elim np1 np
    have n2 : ¬ R2 p := fun z => di p (.inl rfl) z
    have rl : Rep S F1 (upd H1 p (.ins cl.addr dx (cl.fields.zip vs'))) (.ins true c ds') (.ref p) (Uni (fun x => x = p) Q') := by
      simp only [Rep]
      refine ⟨p, cl, dx, vs', rfl, hc, hl', ?_⟩
      rw [if_pos trivial]
      exact ⟨upd_same, .inl rfl, Q', nQ, rfl, Reps.keep (fun _ _ z => z) _ rs' fun x hx => upd_ne fun z => nQ (z ▸ hx)⟩
    have d2 : Dis (Uni (fun x => x = p) Q') R2 := Dis.uni (fun x h1 h2 => by have h1 : x = p := h1; rw [h1] at h2; exact n2 h2) fun x h1 h2 => (sb x h1).elim (fun z => dPa x z (by rw [eP]; exact .inr h2)) fun z => di x (.inr z) h2
    have rS := up F1 (upd H1 p (.ins cl.addr dx (cl.fields.zip vs'))) _ (fun _ _ z => z) (fun x hx => upd_ne fun z => n2 (z ▸ hx)) rl d2
    have sbA : ∀ x, Uni (Uni (fun x => x = p) Q') R2 x → Uni P1 Pa1 x := fun x h => by
      rw [eP]
      rcases h with (h | h) | h
      · exact .inr (.inl (.inl h))
      · exact (sb x h).elim .inl fun z => .inr (.inl (.inr z))
      · exact .inr (.inr h)
    have pin : Uni P1 Pa1 p := by rw [eP]; exact .inr (.inl (.inl rfl))
    have hFp : F1 p = none := ok1.sr.fr p (by rw [eP]; exact .inl (.inl rfl))
    have sr4 : SR S F1 (upd H1 p (.ins cl.addr dx (cl.fields.zip vs'))) s σ (Uni (Uni (fun x => x = p) Q') R2) := ⟨rS, fun x h => (sbA x h).elim (ok1.fr rfl x) (ok1.sr.fr x), fun x q e => by
      rw [upd_ne (show x ≠ p from fun z => by rw [z, hFp] at e; cases e)]
      exact ok1.sr.sub x q e⟩
    refine ⟨_, ew, p, cl.addr, dx, _, rfl, ep, k1, k4 _ (List.mem_of_getElem? ef), ?_, ?_⟩
    · rw [List.length_zip]; omega
    · rw [ez]
      exact o4 σ F1 _ _ sr4 ((ok1.ext2 rfl).trans ((Ext.updIn pin).less sbA)) Fix.rfl'
theorem s_augI0 {i : Nat} {o : Op2} {op : Operator} {g : Int → Int → Int} {x : Str} {me : ME} {e : Expr} {p pos : Pos} (hop : PIp X op (ipI g)) (hg : ∀ a b d, augD o a b = some d → ∃ i j, a = .int i ∧ b = .int j ∧ d = .int (g i j)) (hN : X.N.Nodup) (hi : X.N[i]? = some x) (hx : Loc X.env.scope x) (hf : X.fn x = true ∨ X.env.scope.names.lookup x = some .local) (he : PE X e (tEw S Wd G W true me)) :
    PS X (.AugAssign (.Name x p) op e pos) (tSt S Wd G W fix (.aug i o me)) := (ps_aug hN hi hx he hop hf).weak fun E σ H h => by
  obtain ⟨F, P, a, sr, out⟩ := h
  simp only [ex] at out
  split at out
  · exact out.elim
  rename_i hfx
  split at out
  case h_2 => exact out.elim
  rename_i d1 ed
  split at out
  case isFalse => exact out.elim
  rename_i hfl
  obtain ⟨w, P1, P2, e1, e2, di, r, _, _⟩ := sr.rep.focus (rd_some ed)
  refine ⟨w, e1, F, P, a, sr, out.head.imp fun d2 a1 e3 o1 v F1 H1 P3 Pa1 ok1 => ?_⟩
  split at o1
  case h_2 => exact o1.elim
  rename_i d ed2
  obtain ⟨i1, j1, rfl, rfl, rfl⟩ := hg _ _ _ ed2
  obtain ⟨rfl, _⟩ := rep_int.mp r
  obtain ⟨rfl, _⟩ := rep_int.mp ok1.rep
  refine ⟨i1, j1, rfl, rfl, ?_⟩
  obtain ⟨P4, sr4, sb⟩ := ok1.sr.asg (i := i) (d := .int (g i1 j1)) (v := .int (g i1 j1)) (Pd := Emp) (rep_int.mpr ⟨rfl, rfl⟩) emp_dis fun x h => h.elim
  exact o1 _ F1 H1 P4 sr4 (ok1.ext.less fun x h => (sb x h).elim (fun z => z.elim) id) (Fix.set (notFix (by simpa using hfx)))
theorem s_augAdd {i : Nat} {x : Str} {me : ME} {e : Expr} {p pos : Pos} (hN : X.N.Nodup) (hi : X.N[i]? = some x) (hx : Loc X.env.scope x) (hf : X.fn x = true ∨ X.env.scope.names.lookup x = some .local) (he : PE X e (tEw S Wd G W true me)) : PS X (.AugAssign (.Name x p) .Add e pos) (tSt S Wd G W fix (.aug i .add me)) :=
  s_augI0 ip_add (fun a b d h => by
    cases a <;> first | (simp only [augD, reduceCtorEq] at h; done) | skip
    cases b <;> simp only [augD, reduceCtorEq, Option.some.injEq] at h
    exact ⟨_, _, rfl, rfl, h.symm⟩) hN hi hx hf he
end
end Ab
namespace Ab
open PySem L2
open Classical
variable {S : Sig} {F F' H H' : Hp} {P : Fp} {σ : L2.St} {a a' : SA}

theorem RepS.blank : ∀ n : Nat, RepS S F H (List.replicate n none) (List.replicate n none) Emp
  | 0 => ⟨rfl, rfl⟩
  | n + 1 => ⟨none, _, rfl, RepS.blank n⟩
theorem RepS.ofReps (n : Nat) : ∀ {ds : List D} {vs : List V} {P : Fp}, Reps S F H ds vs P → RepS S F H (ds.map some ++ List.replicate n none) (vs.map some ++ List.replicate n none) P
  | [], vs, P, r => by
    simp only [Reps] at r
    obtain ⟨rfl, rfl⟩ := r
    exact RepS.blank n
  | d :: ds, vs, P, r => by
    simp only [Reps] at r
    obtain ⟨v, vr, P1, P2, rfl, rfl, di, r1, r2⟩ := r
    exact ⟨v, _, P1, P2, rfl, rfl, di, r1, RepS.ofReps n r2⟩
theorem mvals_eq {s : SA} : ∀ is : List Nat, mvals s is = mvD is s
  | [] => rfl
  | i :: is => by simp only [mvals, mvD, mvals_eq is]
theorem slots_start {vs : List V} {n : Nat} {σ' : L2.St} : ∀ {is : List Nat} {ws : List V}, (∀ i ∈ is, i < vs.length ∧ σ'[i]? = (vs.map some ++ List.replicate n none)[i]?) → slotVs σ' is ws → slotVs (vs.map some) is ws
  | [], ws, h, sv => sv
  | i :: is, ws, h, sv => by
    obtain ⟨v, r, rfl, e, sv⟩ := sv
    obtain ⟨h1, h2⟩ := h i List.mem_cons_self
    refine ⟨v, r, rfl, ?_, slots_start (fun j hj => h j (List.mem_cons_of_mem _ hj)) sv⟩
    rw [← e, h2, List.getElem?_append_left (by simpa using h1)]
/-- a def keeps its promise: what the evaluator says -/
theorem fn_ok {Pg : Program} {w : World} {K : PySem.W.Frag} {mg : Str → Option Value} {base : Heap} {x qual : Str} {st : Stmt} {fa : Addr} {fd : FuncData} {N ps : List Str} {k : Nat} {G : Env0A} {W : Nat} {f : MF}
    (Fu : Fun K x qual st fa fd) (Sc : FnScope N ps (defScope st)) (hp : f.np = ps.length) (hn : f.ns = N.length) (nd : nodupB f.fix = true) (hf : ∀ i ∈ f.fix, i < f.np)
    (hb : ∀ (cdv : Value) (A : Around) (outer : List Env) (s : Shared) (H : Hp) (E : XK), Room k (A.deeper (PyProof.Rows.envOfC qual (defScope st) s.heap.objs.size fa cdv)) →
      PSs (cxOf (L2.CX Pg w) Pg w K mg base N qual (defScope st) fa cdv A outer s H E) (defBody st) (tSs S (fun cls d _ H => E cls d H) G W f.fix f.body)) :
    FnOk Pg w K mg base (L2.CX Pg w) (k + 1) fa fd ps (spA S f.fix (runF G W f)) := by
  have key : ∀ {vs : List V} {H : Hp} {Q : VK} {E : XK}, spA S f.fix (runF G W f) vs H Q E → ∃ F ds P, Reps S F H ds vs P ∧ (∀ x, P x → F x = none) ∧ Same F H ∧ vs.length = f.np ∧ RzOk S F H P f.fix vs Q E (resOf f.fix (exs G W f.fix f.body (ds.map some ++ List.replicate (f.ns - f.np) none))) := fun {vs H Q E} h => by
    obtain ⟨F, ds, P, r, fr, sub, rz⟩ := h
    unfold runF at rz
    split at rz
    · rename_i hl
      exact ⟨F, ds, P, r, fr, sub, by rw [Reps.len r, hl], rz⟩
    · exact rz.elim
  refine Fu.okX Sc (fun vs H Q E h => ?_) fun cdv A outer s H vs Q E hr h => ?_
  · obtain ⟨_, _, _, _, _, _, hl, _⟩ := key h
    rw [hl, hp]
  · obtain ⟨F, ds, P, r, fr, sub, hl, rz⟩ := key h
    have est : L2.start N vs = vs.map some ++ List.replicate (f.ns - f.np) none := by unfold L2.start; rw [hn, hl]
    rw [est]
    refine ⟨_, hb cdv A outer s H E hr, F, P, _, ⟨RepS.ofReps (f.ns - f.np) r, fr, sub⟩, ?_⟩
    have back : ∀ {s' : SA} {ms : List D} {σ' : L2.St} {F' H' : Hp} {Pa : Fp}, mvals s' f.fix = some ms → SR S F' H' s' σ' Pa → Fix f.fix (vs.map some ++ List.replicate (f.ns - f.np) none) σ' → ∃ ws Pm, slotVs (vs.map some) f.fix ws ∧ Reps S F' H' ms ws Pm ∧ ∀ x, Pm x → Pa x := fun {s' ms σ' F' H' Pa} em sr fx => by
      rw [mvals_eq] at em
      obtain ⟨ws, Pm, Pr, sv, rm, _, eP, _⟩ := sr.rep.out nd em
      exact ⟨ws, Pm, slots_start (fun i hi => ⟨by rw [hl]; exact hf i hi, fx i hi⟩) sv, rm, fun x h => by rw [eP]; exact .inl h⟩
    generalize exs G W f.fix f.body (ds.map some ++ List.replicate (f.ns - f.np) none) = out at rz
    cases out with
    | bad => exact rz.elim
    | bk s' => exact rz.elim
    | ct s' => exact rz.elim
    | nx s' =>
      intro σ' F' H' Pa sr ex fx
      simp only [resOf] at rz
      split at rz
      case h_2 => exact rz.elim
      rename_i ms em
      obtain ⟨ws, Pm, sv, rm, sb⟩ := back em sr fx
      refine rz .non ws F' H' Emp Pm sv (rep_non.mpr ⟨rfl, rfl⟩) rm emp_dis (fun x h => h.elim (fun z => z.elim) fun z => sr.fr x (sb x z)) sr.sub (ex.less fun x h => h.elim (fun z => z.elim) (sb x))
    | rt d s' =>
      intro v σ' F' H' Pd Pa rd' sr ex di frd fx
      simp only [resOf] at rz
      split at rz
      case h_2 => exact rz.elim
      rename_i ms em
      obtain ⟨ws, Pm, sv, rm, sb⟩ := back em sr fx
      exact rz v ws F' H' Pd Pm sv rd' rm (fun x h1 h2 => di x h1 (sb x h2)) (fun x h => h.elim (frd x) fun z => sr.fr x (sb x z)) sr.sub (ex.less fun x h => h.elim .inl fun z => .inr (sb x z))
    | rz c s' =>
      intro σ' F' H' Pa sr ex fx
      simp only [resOf] at rz
      split at rz
      case h_2 => exact rz.elim
      rename_i ms em
      obtain ⟨ws, Pm, sv, rm, sb⟩ := back em sr fx
      exact rz ws F' H' Pm sv rm (fun x h => sr.fr x (sb x h)) sr.sub (ex.less sb)
/-- around a def's body -/
theorem takes_def {Pg : Program} {w : World} {K : PySem.W.Frag} {mg : Str → Option Value} {base : Heap} {N : List Str} {qual : Str} {sc : Scope} {fa : Addr} {cdv : Value} {A : Around} {outer : List Env} {s : Shared} {H : Hp} {E : XK} :
    Takes (cxOf (L2.CX Pg w) Pg w K mg base N qual sc fa cdv A outer s H E) (fun cls d _ H => E cls d H) := fun u s' x => by
  exact XE.leave (W := fun cls d _ H => E cls d H) (E := E) rfl rfl rfl (fun _ _ _ _ h => h) x
section
variable {X : Cx} {G : Env0A} {W : Nat} {Wd : WX} {fix : List Nat}
/-- name = [..] on one line -/
theorem s_setLc {i own : Nat} {y z : Str} {py : Pos} {elt : ME} {it : MI} {t : MTo} {e tg iter : Expr} {ifs : List Expr} {scope : Scope} {pos spos : Pos} (hc : X.calm = true) (hN : X.N.Nodup) (hy : X.N[i]? = some y) (hyl : X.env.scope.names.lookup y = some .local)
    (hsw : swapsWith (.ListComp e [⟨tg, iter, ifs, 0⟩] scope pos) (some (.Name y py)) spos.line X.env = pure true) (hi : PI X tg iter (tIt S (ZW S Wd) G W it)) (ok : BlkOk X.N X.env.scope scope [(z, own)])
    (hg : ∀ (s : Shared) (H : Hp) (C : Addr) (cl : List (Str × Addr)) (fp : List Addr), PG (X.blk s H scope (compEnvC scope cl C X.env) fp) tg (gName own)) (ht : ∀ (s : Shared) (H : Hp) (C : Addr) (cl : List (Str × Addr)) (fp : List Addr), PTs (X.blk s H scope (compEnvC scope cl C X.env) fp) ifs (tTo S G W t))
    (he : ∀ (s : Shared) (H : Hp) (C : Addr) (cl : List (Str × Addr)) (fp : List Addr), PE (X.blk s H scope (compEnvC scope cl C X.env) fp) e (tE S Z0 G W false elt)) (hs : ∀ x, foldedSetIterable iter X.env x = pure x) :
    PS X (.Assign [.Name y py] (.ListComp e [⟨tg, iter, ifs, 0⟩] scope pos) spos) (tSt S Wd G W fix (.asg i (.comp own elt it t))) :=
  (ps_setLc hc hN hy hyl hsw hi ok hg ht he hs).weak fun E σ H h => lc_ok (v := false) (asg_rd h)
theorem t_none : PTs X [] (tTo S G W .none) := ⟨fun pins s σ H Q I h => pts_nil.run pins s σ H Q I (by
  obtain ⟨F, P, a, sr, o⟩ := h
  exact o F H P sr .refl fun _ _ _ z => z)⟩
theorem t_some {t : MT} {c : Expr} (h : PT X c (tT S Z0 G W t)) : PTs X [c] (tTo S G W (.some t)) := pts_one h
end
end Ab
/-! Ab33: the rules as the printed terms use them: the side conditions by default. -/
namespace Ab
open PySem L2
/-- what a body's context is known to be -/
structure Ctx (X : Cx) (S : Sig) (att : Nat → Str) (k : Nat) (Wd : WX) : Prop where
  hK : S.K = X.K
  hC : ClsOk X.K att S
  room : Room k X.A
  nd : X.N.Nodup
  calm : X.calm = true
  tk : Takes X Wd
theorem Ctx.hu {X : Cx} {S : Sig} {att : Nat → Str} {k : Nat} {Wd : WX} (c : Ctx X S att k Wd) : X.A.units + 65 < cLine := by have := c.room.un; omega
/-- a def that is ready to be called -/
structure LibFn (P : Program) (w : World) (K : PySem.W.Frag) (mg : Str → Option Value) (base : Heap) (S : Sig) (fix : List Nat) (g : Callee) (k : Nat) (x : Str) : Prop where
  ex : ∃ (f : Addr) (fd : FuncData) (ps : List Str), mg x = some (.ref f) ∧ PySem.W.keepIn K (.ref f) = true ∧ FnOk P w K mg base (L2.CX P w) k f fd ps (spA S fix g) ∧ Binds K fd ps []
/-- a class that is ready to be made -/
structure LibCls (P : Program) (w : World) (K : PySem.W.Frag) (mg : Str → Option Value) (base : Heap) (S : Sig) (ci : Nat) (g : Callee) (k : Nat) (x : Str) : Prop where
  ex : ∃ (cl : Cl) (f : Addr) (fd : FuncData) (ps : List Str), S.cls ci = some cl ∧ mg x = some (.ref cl.addr) ∧ Mk K cl.addr f ∧ FnOk P w K mg base (L2.CX P w) k f fd ps (spA S [0] g) ∧ Binds K fd ps []
section
variable {X : Cx} {S : Sig} {att : Nat → Str} {k : Nat} {Wd : WX} {G : Env0A} {W : Nat} {Z : L2.St → Nat → Hp → Prop} {fix : List Nat}
theorem k_slot (i : Nat) {x : Str} {pos : Pos} {v : Bool} (hN : X.N[i]? = some x := by rfl) (hv : Vis X.env.scope x := by first | exact Or.inl rfl | exact Or.inr (Or.inl rfl) | exact Or.inr (Or.inr rfl)) (hd : (x == ("__debug__" : Str)) = false := by decide)
    (hcd : (x == ("__classdict__" : Str)) = false := by decide) : PE X (.Name x pos) (tE S Z G W v (.slot i)) := c_slot hN hv hd hcd
theorem k_int {i : Int} {j : Nat} {p : Pos} {v : Bool} : PE X (.Constant (.int i) j p) (tE S Z G W v (.int i)) := c_flat (d := .int i) pe_int (fun _ => rfl) (fun F H => rep_int.mpr ⟨rfl, rfl⟩) rfl
theorem k_bl {i : Bool} {j : Nat} {p : Pos} {v : Bool} : PE X (.Constant (.bool i) j p) (tE S Z G W v (.bl i)) := c_flat (d := .bl i) pe_bl (fun _ => rfl) (fun F H => rep_bl.mpr ⟨rfl, rfl⟩) rfl
theorem k_non {j : Nat} {p : Pos} {v : Bool} : PE X (.Constant .none j p) (tE S Z G W v .non) := c_flat (d := .non) pe_non (fun _ => rfl) (fun F H => rep_non.mpr ⟨rfl, rfl⟩) rfl
theorem k_glob {i : Int} {x : Str} {p : Pos} {v : Bool} (hm : ∃ t, X.mg x = some (.int i t)) (hg : Gl X x := by rfl) (hd : (x == ("__debug__" : Str)) = false := by decide) : PE X (.Name x p) (tE S Z G W v (.glob x i)) :=
  let ⟨t, e⟩ := hm
  c_flat (d := .int i) (pe_glob (v := .int i) hg e ⟨t, rfl⟩ hd) (fun _ => rfl) (fun F H => rep_int.mpr ⟨rfl, rfl⟩) rfl
theorem k_bin (o : Op2) {ea eb : ME} {x y : Expr} {pos : Pos} {v : Bool} (ha : PE X x (tE S Z G W true ea)) (hb : PE X y (tE S Z G W true eb)) : PE X (.BinOp x (opO o) y pos) (tE S Z G W v (.bin o ea eb)) := c_bin ha hb
theorem k_cmp (o : Cmp) (c : Ctx X S att k Wd) {ea eb : ME} {x y : Expr} {pos : Pos} {v : Bool} (ha : PE X x (tE S Z G W true ea)) (hb : PE X y (tE S Z G W true eb)) (hm : behindInMarks (opC o) y = false := by rfl) : PE X (.Compare x [opC o] [y] pos) (tE S Z G W v (.cmp o ea eb)) :=
  c_cmpO (cmp_ok c.hK c.hu o) hm ha hb
theorem k_chain (o o2 : Cmp) (c : Ctx X S att k Wd) {ea eb ed : ME} {x y z : Expr} {pos : Pos} {v : Bool} (ha : PE X x (tE S Z G W true ea)) (hb : PE X y (tE S Z G W true eb)) (hd : PE X z (tE S Z G W true ed)) (hm : lastMarks [opC o, opC o2] [y, z] = false := by rfl) :
    PE X (.Compare x [opC o, opC o2] [y, z] pos) (tE S Z G W v (.chain o o2 ea eb ed)) := c_chain (cmp_ok c.hK c.hu o) (cmp_ok c.hK c.hu o2) hm ha hb hd
theorem kt_cmp (o : Cmp) (c : Ctx X S att k Wd) {ea eb : ME} {x y : Expr} {pos : Pos} (ha : PE X x (tE S Z G W true ea)) (hb : PE X y (tE S Z G W true eb)) (hm : behindInMarks (opC o) y = false := by rfl) : PT X (.Compare x [opC o] [y] pos) (tT S Z G W (.cmp o ea eb)) :=
  t_cmp (cmp_ok c.hK c.hu o) hm ha hb
theorem kt_val {ea : ME} {x : Expr} (ha : PE X x (tE S Z G W true ea)) (he : ∀ whole, isTrue x X.env whole = (do let v ← whole; standAt x.pos; holding [v] (truthy v)) := by intro _; rfl) : PT X x (tT S Z G W (.val ea)) := t_val ha he
theorem k_cons {e : Expr} {es : List Expr} {me : ME} {mes : MEs} (he : PE X e (tE S Z G W false me)) (hs : PA X es (tEs S Z G W mes)) (hst : noStar e = true := by rfl) : PA X (e :: es) (tEs S Z G W (.cons me mes)) := c_cons he hs (star_cons hst)
theorem k_sub (c : Ctx X S att k Wd) {ea ei : ME} {x i : Expr} {pos : Pos} {v : Bool} (ha : PE X x (tE S Z G W true ea)) (hi : PE X i (tE S Z G W true ei)) (hp : PlainIx i := by intro _ _; rfl) : PE X (.Subscript x i pos) (tE S Z G W v (.sub ea ei)) := c_sub c.hK ha hi hp
theorem k_fld (c : Ctx X S att k Wd) {ea : ME} {j : Nat} {x : Expr} {pos : Pos} {v : Bool} (ha : PE X x (tE S Z G W true ea)) (hb : baseOk x = true := by rfl) : PE X (.Attribute x (att j) pos) (tE S Z G W v (.fld ea j)) := c_fld c.hC (base_of hb) ha
theorem k_len (c : Ctx X S att k Wd) {ea : ME} {x : Expr} {p pos : Pos} {v : Bool} (hm : X.mg "len" = none) (ha : PE X x (tE S Z G W true ea)) (hg : Gl X "len" := by rfl) (hst : noStar x = true := by rfl) : PE X (.Call (.Name "len" p) [x] [] pos) (tE S Z G W v (.bi1 .len ea)) :=
  c_callB1 (len_ok c.hK) hg hm (by decide +kernel) (by decide) (by decide) (star_cons hst) ha
theorem k_list (c : Ctx X S att k Wd) {ea : ME} {x : Expr} {p pos : Pos} {v : Bool} (hm : X.mg "list" = none) (ha : PE X x (tE S Z G W true ea)) (hg : Gl X "list" := by rfl) (hst : noStar x = true := by rfl) : PE X (.Call (.Name "list" p) [x] [] pos) (tE S Z G W v (.bi1 .list ea)) :=
  c_callT1 (list_ok c.hK) hg hm (by decide +kernel) (by decide) (by decide) (star_cons hst) ha
theorem k_tuple (c : Ctx X S att k Wd) {ea : ME} {x : Expr} {p pos : Pos} {v : Bool} (hm : X.mg "tuple" = none) (ha : PE X x (tE S Z G W true ea)) (hg : Gl X "tuple" := by rfl) (hst : noStar x = true := by rfl) : PE X (.Call (.Name "tuple" p) [x] [] pos) (tE S Z G W v (.bi1 .tuple ea)) :=
  c_callT1 (tuple_ok c.hK) hg hm (by decide +kernel) (by decide) (by decide) (star_cons hst) ha
theorem k_intF {ea : ME} {x : Expr} {p pos : Pos} {v : Bool} (hm : X.mg "int" = none) (ha : PE X x (tE S Z G W true ea)) (hg : Gl X "int" := by rfl) (hst : noStar x = true := by rfl) : PE X (.Call (.Name "int" p) [x] [] pos) (tE S Z G W v (.bi1 .int ea)) :=
  c_callT1 int_ok hg hm (by decide +kernel) (by decide) (by decide) (star_cons hst) ha
theorem k_call (c : Ctx X S att k Wd) {fi j : Nat} {g : Callee} {as : MAs} {fx : List Nat} {x : Str} {p pos : Pos} {es : List Expr} {v : Bool} (L : LibFn X.prog X.w X.K X.mg X.base S fx g j x) (hG : G fi = some g) (ha : PA X es (tAVs S (ZW S Wd) G W as)) (hj : j ≤ k := by decide) (hp : posA 0 as = fx := by rfl) (hg : Gl X x := by rfl)
    (hdb : (x == ("__debug__" : Str)) = false := by decide) (hs : es.all noStar = true := by rfl) (hz : es = [] → as = .nil := by first | exact fun h => nomatch h | exact fun _ => rfl) : PE X (.Call (.Name x p) es [] pos) (tE S (ZW S Wd) G W v (.call fi as)) := by
  obtain ⟨f, fd, ps, hm, hk, F, hb⟩ := L.ex
  subst hp
  exact c_call hG c.tk F (c.room.mono hj) hg hm hk hb hdb hs hz ha
theorem k_rd {e : Expr} {es : List Expr} {me : ME} {as : MAs} (he : PE X e (tE S Z G W false me)) (hs : PA X es (tAVs S Z G W as)) (hst : noStar e = true := by rfl) : PA X (e :: es) (tAVs S Z G W (.cons (.rd me) as)) := a_rd he hs (star_cons hst)
theorem k_bor (i : Nat) {x : Str} {pos : Pos} {es : List Expr} {as : MAs} (hs : PA X es (tAVs S Z G W as)) (hN : X.N[i]? = some x := by rfl) (hv : Vis X.env.scope x := by first | exact Or.inl rfl | exact Or.inr (Or.inl rfl) | exact Or.inr (Or.inr rfl)) (hd : (x == ("__debug__" : Str)) = false := by decide) (hcd : (x == ("__classdict__" : Str)) = false := by decide) :
    PA X (.Name x pos :: es) (tAVs S Z G W (.cons (.bor i) as)) := a_slot (.inl rfl) hN hv hd hcd hs rfl
theorem k_mv (i : Nat) {x : Str} {pos : Pos} {es : List Expr} {as : MAs} (hs : PA X es (tAVs S Z G W as)) (hN : X.N[i]? = some x := by rfl) (hv : Vis X.env.scope x := by first | exact Or.inl rfl | exact Or.inr (Or.inl rfl) | exact Or.inr (Or.inr rfl)) (hd : (x == ("__debug__" : Str)) = false := by decide) (hcd : (x == ("__classdict__" : Str)) = false := by decide) :
    PA X (.Name x pos :: es) (tAVs S Z G W (.cons (.mv i) as)) := a_slot (.inr rfl) hN hv hd hcd hs rfl
-- statements
theorem ks_asg (c : Ctx X S att k Wd) (i : Nat) {x : Str} {me : ME} {e : Expr} {p pos : Pos} (he : PE X e (tEw S Wd G W false me)) (hi : X.N[i]? = some x := by rfl) (hx : Loc X.env.scope x := by first | exact Or.inl rfl | exact Or.inr rfl) (hf : X.fn x = true ∨ X.env.scope.names.lookup x = some .local := by first | exact .inl rfl | exact .inr rfl)
    (hs : swapsWith e (some (.Name x p)) pos.line X.env = pure false := by rfl) : PS X (.Assign [.Name x p] e pos) (tSt S Wd G W fix (.asg i me)) := s_asg c.nd hi hx hf hs he
theorem ks_retS (i : Nat) {x : Str} {p pos : Pos} (hN : X.N[i]? = some x := by rfl) (hv : Vis X.env.scope x := by first | exact Or.inl rfl | exact Or.inr (Or.inl rfl) | exact Or.inr (Or.inr rfl)) (hd : (x == ("__debug__" : Str)) = false := by decide) (hcd : (x == ("__classdict__" : Str)) = false := by decide) :
    PS X (.Return (some (.Name x p)) pos) (tSt S Wd G W fix (.ret (.slot i))) := s_retS hN hv hd hcd
theorem ks_ret {me : ME} {e : Expr} {pos : Pos} (he : PE X e (tEw S Wd G W false me)) (hn : slotOf me = none := by rfl) : PS X (.Return (some e) pos) (tSt S Wd G W fix (.ret me)) := s_ret hn he
theorem kg_name (c : Ctx X S att k Wd) (i : Nat) {x : Str} {p : Pos} (hi : X.N[i]? = some x := by rfl) (hx : Loc X.env.scope x := by first | exact Or.inl rfl | exact Or.inr rfl) (hf : X.fn x = true ∨ X.env.scope.names.lookup x = some .local := by first | exact .inl rfl | exact .inr rfl) : PG X (.Name x p) (tG X.K (.name i)) := pg_name c.nd hi hx hf
theorem ks_for (c : Ctx X S att k Wd) (hp : PassesOwn (model X.prog X.w) X.A X.env X.xe) {g : MG} {it : MI} {mb : MSs} {tg iter : Expr} {body : List Stmt} {pos : Pos} (hg : PG X tg (tG X.K g)) (hi : PI X tg iter (tIt S (ZW S Wd) G W it)) (hb : ∀ fx, PSs X body (tSs S Wd G W fx mb))
    (hs : ∀ x, foldedSetIterable iter X.env x = pure x := by intro _; rfl) : PS X (.For tg iter body [] pos) (tSt S Wd G W fix (.forr g it mb)) := s_for hp c.calm hi hg hb hs
theorem ki_r1 {e : Expr} {me : ME} {tg : Expr} {p pos : Pos} (hm : X.mg "range" = none) (he : PE X e (tE S Z G W true me)) (hg : Gl X "range" := by rfl) (hst : noStar e = true := by rfl) : PI X tg (.Call (.Name "range" p) [e] [] pos) (tIt S Z G W (.r1 me)) := c_r1 hg hm (star_cons hst) he
theorem ki_slot (i : Nat) {x : Str} {tg : Expr} {pos : Pos} (hN : X.N[i]? = some x := by rfl) (hv : Vis X.env.scope x := by first | exact Or.inl rfl | exact Or.inr (Or.inl rfl) | exact Or.inr (Or.inr rfl)) (hd : (x == ("__debug__" : Str)) = false := by decide) (hcd : (x == ("__classdict__" : Str)) = false := by decide) :
    PI X tg (.Name x pos) (tIt S Z G W (.of (.slot i))) := c_ofS hN hv hd hcd
end
end Ab
namespace Ab
open PySem L2
section
variable {X : Cx} {S : Sig} {att : Nat → Str} {k : Nat} {Wd : WX} {G : Env0A} {W : Nat} {Z : L2.St → Nat → Hp → Prop} {fix : List Nat}
theorem k_and {ea eb : ME} {x y : Expr} {r : List Expr} {pos : Pos} {v : Bool} (ha : PE X x (tE S Z G W true ea)) (hb : PE X (.BoolOp .And (y :: r) pos) (tE S Z G W true eb)) : PE X (.BoolOp .And (x :: y :: r) pos) (tE S Z G W v (.and2 ea eb)) := c_and2 ha hb
theorem k_isN {ea : ME} {x : Expr} {pos pos' : Pos} {j : Nat} {v : Bool} (ha : PE X x (tE S Z G W true ea)) : PE X (.Compare x [.Is] [.Constant .none j pos'] pos) (tE S Z G W v (.isn false ea)) := c_isn (n := false) ha
theorem k_isi (t : Ty) {ea : ME} {x : Expr} {p p2 pos : Pos} {v : Bool} {nm : Str} (hm : X.mg "isinstance" = none) (hm2 : X.mg nm = none) (ha : PE X x (tE S Z G W true ea)) (hv : bootBuiltins nm = some (.type (tyName t)) := by decide +kernel) (hn : nm ≠ "__name__" := by decide) (hd : (nm == ("__debug__" : Str)) = false := by decide)
    (hg : Gl X "isinstance" := by rfl) (hg2 : Gl X nm := by rfl) (h1 : noStar x = true := by rfl) : PE X (.Call (.Name "isinstance" p) [x, .Name nm p2] [] pos) (tE S Z G W v (.isi ea t)) :=
  c_isi hg hm (pe_bltn hg2 hm2 hv rfl hn hd) (star_cons h1) (star_cons rfl) ha
theorem k_pop (i : Nat) {x : Str} {npos apos pos : Pos} {v : Bool} (hN : X.N[i]? = some x := by rfl) (hv : Vis X.env.scope x := by first | exact Or.inl rfl | exact Or.inr (Or.inl rfl) | exact Or.inr (Or.inr rfl)) (hd : (x == ("__debug__" : Str)) = false := by decide) (hcd : (x == ("__classdict__" : Str)) = false := by decide) (hl : (apos.endLine == pos.line) = true := by rfl) :
    PE X (.Call (.Attribute (.Name x npos) "pop" apos) [] [] pos) (tE S Z G W v (.pop i)) := c_pop hN hv hd hcd hl
theorem k_make (c : Ctx X S att k Wd) {ci fi j : Nat} {g : Callee} {as : MAs} {x : Str} {p pos : Pos} {es : List Expr} {v : Bool} (L : LibCls X.prog X.w X.K X.mg X.base S ci g j x) (hG : G fi = some g) (ha : PA X es (tAVs S (ZW S Wd) G W as)) (hj : j + 1 ≤ k := by decide) (hg : Gl X x := by rfl)
    (hdb : (x == ("__debug__" : Str)) = false := by decide) (hs : es.all noStar = true := by rfl) (hz : es = [] → as = .nil := by first | exact fun h => nomatch h | exact fun _ => rfl) : PE X (.Call (.Name x p) es [] pos) (tE S (ZW S Wd) G W v (.make ci fi as)) := by
  obtain ⟨cl, f, fd, ps, hc, hm, M, F, hb⟩ := L.ex
  exact c_make hG hc c.tk M F (c.room.mono hj) hg hm hb hdb hs hz ha
/-- a comprehension's block -/
theorem Ctx.blk (c : Ctx X S att k Wd) {s : Shared} {H : Hp} {scope : Scope} {ce : Env} {fp : List Addr} : Ctx (X.blk s H scope ce fp) S att k (fun _ _ _ _ => False) := ⟨c.hK, c.hC, c.room, c.nd, c.calm, takes0⟩
theorem k_comp (c : Ctx X S att k Wd) (own : Nat) {y : Str} {elt : ME} {it : MI} {t : MTo} {e iter : Expr} {ifs : List Expr} {scope : Scope} {pos p : Pos} {v : Bool} (hi : PI X (.Name y p) iter (tIt S Z G W it))
    (he : ∀ (s : Shared) (H : Hp) (C : Addr) (cl : List (Str × Addr)) (fp : List Addr), Ctx (X.blk s H scope (compEnvC scope cl C X.env) fp) S att k (fun _ _ _ _ => False) → PE (X.blk s H scope (compEnvC scope cl C X.env) fp) e (tE S Z0 G W false elt))
    (ht : ∀ (s : Shared) (H : Hp) (C : Addr) (cl : List (Str × Addr)) (fp : List Addr), Ctx (X.blk s H scope (compEnvC scope cl C X.env) fp) S att k (fun _ _ _ _ => False) → PTs (X.blk s H scope (compEnvC scope cl C X.env) fp) ifs (tTo S G W t))
    (hN : X.N[own]? = some y := by rfl) (ok : BlkOk X.N X.env.scope scope [(y, own)] := by exact blkOk_by (by rfl)) (hx : ∀ (cl : List (Str × Addr)) (C : Addr), Loc (compEnvC scope cl C X.env).scope y := by first | exact fun _ _ => Or.inl rfl | exact fun _ _ => Or.inr rfl)
    (hf : ∀ (cl : List (Str × Addr)) (C : Addr), (scope.names.lookup y == some NameKind.cell) = true ∨ (compEnvC scope cl C X.env).scope.names.lookup y = some .local := by first | exact fun _ _ => .inr rfl | exact fun _ _ => .inl rfl)
    (hs : ∀ x, foldedSetIterable iter X.env x = pure x := by intro _; rfl) : PE X (.ListComp e [⟨.Name y p, iter, ifs, 0⟩] scope pos) (tE S Z G W v (.comp own elt it t)) :=
  c_comp c.calm c.nd hi ok (fun s H C cl fp => pg_name (X := X.blk s H scope (compEnvC scope cl C X.env) fp) c.nd hN (hx cl C) (hf cl C)) (fun s H C cl fp => ht s H C cl fp c.blk) (fun s H C cl fp => he s H C cl fp c.blk) hs
theorem ks_setLc (c : Ctx X S att k Wd) (i own : Nat) {y z : Str} {py p : Pos} {elt : ME} {it : MI} {t : MTo} {e iter : Expr} {ifs : List Expr} {scope : Scope} {pos spos : Pos} (hi : PI X (.Name z p) iter (tIt S (ZW S Wd) G W it))
    (he : ∀ (s : Shared) (H : Hp) (C : Addr) (cl : List (Str × Addr)) (fp : List Addr), Ctx (X.blk s H scope (compEnvC scope cl C X.env) fp) S att k (fun _ _ _ _ => False) → PE (X.blk s H scope (compEnvC scope cl C X.env) fp) e (tE S Z0 G W false elt))
    (ht : ∀ (s : Shared) (H : Hp) (C : Addr) (cl : List (Str × Addr)) (fp : List Addr), Ctx (X.blk s H scope (compEnvC scope cl C X.env) fp) S att k (fun _ _ _ _ => False) → PTs (X.blk s H scope (compEnvC scope cl C X.env) fp) ifs (tTo S G W t))
    (hk : X.env.scope.kind = .function := by rfl) (hy : X.N[i]? = some y := by rfl) (hyl : X.env.scope.names.lookup y = some .local := by rfl) (hl : (py.line == pos.line) = true := by rfl) (ha : (scope.names.any fun (n, k) => n == y && (k == .local || k == .cell)) = false := by rfl)
    (hN : X.N[own]? = some z := by rfl) (ok : BlkOk X.N X.env.scope scope [(z, own)] := by exact blkOk_by (by rfl)) (hx : ∀ (cl : List (Str × Addr)) (C : Addr), Loc (compEnvC scope cl C X.env).scope z := by first | exact fun _ _ => Or.inl rfl | exact fun _ _ => Or.inr rfl)
    (hf : ∀ (cl : List (Str × Addr)) (C : Addr), (scope.names.lookup z == some NameKind.cell) = true ∨ (compEnvC scope cl C X.env).scope.names.lookup z = some .local := by first | exact fun _ _ => .inr rfl | exact fun _ _ => .inl rfl)
    (hs : ∀ x, foldedSetIterable iter X.env x = pure x := by intro _; rfl) : PS X (.Assign [.Name y py] (.ListComp e [⟨.Name z p, iter, ifs, 0⟩] scope pos) spos) (tSt S Wd G W fix (.asg i (.comp own elt it t))) :=
  s_setLc c.calm c.nd hy hyl (sw_true hk hyl hl ha) hi ok (fun s H C cl fp => pg_name (X := X.blk s H scope (compEnvC scope cl C X.env) fp) c.nd hN (hx cl C) (hf cl C)) (fun s H C cl fp => ht s H C cl fp c.blk) (fun s H C cl fp => he s H C cl fp c.blk) hs
theorem ki_of {e tg : Expr} {me : ME} (he : PE X e (tE S Z G W false me)) (hs : slotOf me = none := by rfl) : PI X tg e (tIt S Z G W (.of me)) := c_of hs he
theorem kp_slot (i : Nat) {x : Str} {pos : Pos} (hN : X.N[i]? = some x := by rfl) (hv : Vis X.env.scope x := by first | exact Or.inl rfl | exact Or.inr (Or.inl rfl) | exact Or.inr (Or.inr rfl)) (hd : (x == ("__debug__" : Str)) = false := by decide) (hcd : (x == ("__classdict__" : Str)) = false := by decide) : PE X (.Name x pos) (tP att S Z G W (.slot i)) := p_slot hN hv hd hcd
theorem ks_setI (c : Ctx X S att k Wd) {mp mi me : ME} {o i e : Expr} {p1 pos : Pos} (ho : PE X o (tP att S (ZW S Wd) G W mp)) (hi : PE X i (tEw S Wd G W true mi)) (he : PE X e (tEw S Wd G W false me))
    (ha : ∀ v, assign (.Subscript o i p1) X.env v = (do
      let ov ← holding [v] (eval o X.env)
      let iv ← holding [v, ov] (eval i X.env)
      standAt p1
      holding [v, ov, iv] (setItem ov iv v)
      release [v, ov, iv] []) := by intro _; rfl) : PS X (.Assign [.Subscript o i p1] e pos) (tSt S Wd G W fix (.setI mp mi me)) := s_setI c.hC ho hi he ha
theorem ks_append (c : Ctx X S att k Wd) {mp me : ME} {o e : Expr} {apos p1 pos : Pos} (ho : PE X o (tP att S (ZW S Wd) G W mp)) (he : PE X e (tEw S Wd G W false me)) (hb : baseOk o = true := by rfl) (hst : noStar e = true := by rfl) (hl : (apos.endLine == p1.line) = true := by rfl) :
    PS X (.Expr (.Call (.Attribute o "append" apos) [e] [] p1) pos) (tSt S Wd G W fix (.append mp me)) := s_append c.hC ho he hb hst hl
theorem ks_reverse (c : Ctx X S att k Wd) {mp : ME} {o : Expr} {apos p1 pos : Pos} (ho : PE X o (tP att S (ZW S Wd) G W mp)) (hb : baseOk o = true := by rfl) (hl : (apos.endLine == p1.line) = true := by rfl) :
    PS X (.Expr (.Call (.Attribute o "reverse" apos) [] [] p1) pos) (tSt S Wd G W fix (.reverse mp)) := s_reverse c.hC ho hb hl
theorem ks_setF (c : Ctx X S att k Wd) (oi j : Nat) {me : ME} {x : Str} {e : Expr} {p1 p2 pos : Pos} (he : PE X e (tEw S Wd G W false me)) (hN : X.N[oi]? = some x := by rfl) (hv : Vis X.env.scope x := by first | exact Or.inl rfl | exact Or.inr (Or.inl rfl) | exact Or.inr (Or.inr rfl)) (hd : (x == ("__debug__" : Str)) = false := by decide) (hcd : (x == ("__classdict__" : Str)) = false := by decide) :
    PS X (.Assign [.Attribute (.Name x p1) (att j) p2] e pos) (tSt S Wd G W fix (.setF oi j me)) := s_setF c.hC hN hv hd hcd he
theorem ks_augAdd (c : Ctx X S att k Wd) (i : Nat) {x : Str} {me : ME} {e : Expr} {p pos : Pos} (he : PE X e (tEw S Wd G W true me)) (hi : X.N[i]? = some x := by rfl) (hx : Loc X.env.scope x := by first | exact Or.inl rfl | exact Or.inr rfl) (hf : X.fn x = true ∨ X.env.scope.names.lookup x = some .local := by first | exact .inl rfl | exact .inr rfl) :
    PS X (.AugAssign (.Name x p) .Add e pos) (tSt S Wd G W fix (.aug i .add me)) := s_augAdd c.nd hi hx hf he
theorem ks_raise (c : Ctx X S att k Wd) (ci : Nat) {e : Expr} {pos : Pos} (he : PMk X e fun _ H Q => Q (S.exn ci) none H) : PS X (.Raise (some e) none pos) (tSt S Wd G W fix (.raise ci)) := s_raise c.calm c.tk he
theorem kg_two (c : Ctx X S att k Wd) (i j : Nat) {x y : Str} {p q r : Pos} {n : Nat} (h1 : PG X (.Name x p) (tG X.K (.name i))) (h2 : PG X (.Name y q) (tG X.K (.name j))) : PG X (.Tuple [.Name x p, .Name y q] n r) (tG X.K (.pair i j)) := pg_tup c.calm (pgs_cons h1 (pgs_cons h2 pgs_nil)) rfl rfl
theorem ks_asgT {g : MG} {me : ME} {tg e : Expr} {pos : Pos} (hg : PG X tg (tG X.K g)) (he : PE X e (tEw S Wd G W false me)) (hs : swapsWithSole [tg] e pos.line X.env = pure false := by rfl) (hw : swappedStores [tg] e X.env = pure none := by rfl) (h1 : (assignEach [tg] X.env).map (·.2) = [assign tg X.env] := by rfl) :
    PS X (.Assign [tg] e pos) (tSt S Wd G W fix (.asgT g me)) := s_asgT he hg hs hw h1
end
end Ab
namespace Ab
open PySem L2
/-- an own exception class (below ValueError) that may be raised -/
structure ExFact (K : PySem.W.Frag) (mg : Str → Option Value) (S : Sig) (ci : Nat) (x : Str) : Prop where
  ex : ∃ C, S.exn ci = .ref C ∧ mg x = some (.ref C) ∧ PySem.W.keepIn K (.ref C) = true ∧ PySem.W.excIn K C [.type "ValueError", .type "Exception", .type "BaseException", .type "object"] "ValueError.__new__" = true ∧
    PySem.W.subIn K (.ref C) (.type "BaseException") = some true ∧ PySem.W.typeIn K (.ref C) = some (.type "type")
section
variable {X : Cx} {S : Sig} {att : Nat → Str} {k : Nat} {Wd : WX} {G : Env0A} {W : Nat} {fix : List Nat}
theorem ks_raiseV (c : Ctx X S att k Wd) (ci : Nat) {x m : Str} {j : Nat} {p p2 p3 pos : Pos} (h : ExFact X.K X.mg S ci x) (hg : Gl X x := by rfl) (hdb : (x == ("__debug__" : Str)) = false := by decide) :
    PS X (.Raise (some (.Call (.Name x p) [.Constant (.str m) j p2] [] p3)) none pos) (tSt S Wd G W fix (.raise ci)) := by
  obtain ⟨C, e, gC, kC, xC, bC, tC⟩ := h.ex
  refine ks_raise c ci ?_
  rw [e]
  exact pmk_own PySem.F.excBase_ValueError xC gC kC (raises_own bC tC) hg hdb
end
section
variable {P : Program} {w : World} {K : PySem.W.Frag} {mg : Str → Option Value} {base : Heap} {S : Sig}
theorem LibFn.mkF {x qual : Str} {st : Stmt} {f : Addr} {fd : FuncData} {ps : List Str} {fix : List Nat} {g : Callee} {k : Nat} (F : Fun K x qual st f fd) (hm : mg x = some (.ref f)) (Fn : FnOk P w K mg base (L2.CX P w) k f fd ps (spA S fix g)) (hb : Binds K fd ps []) : LibFn P w K mg base S fix g k x :=
  ⟨f, fd, ps, hm, F.kp, Fn, hb⟩
end
end Ab
namespace Ab
open PySem L2
theorem cx_none {P : Program} {w : World} {H : Hp} {s : Shared} {e : Value} {s' : Shared} (h : L2.CX P w [] H s (fun _ _ _ => False) e s') : False := by
  obtain ⟨_, _, _, _, _, _, _, _, _, _, _, _, z⟩ := h
  exact z.elim
end Ab
namespace Ab
open PySem L2
variable {S : Sig} {Z : L2.St → Nat → Hp → Prop} {F F' H H' : Hp} {P : Fp} {σ : L2.St} {a a' : SA}
section
variable {X : L2.Cx} {G : Env0A} {W : Nat}
/-- l.index(x) -/
theorem c_idx {eo ea : ME} {o e : Expr} {apos pos : Pos} {v : Bool} (hK : S.K = X.K) (hu : X.A.units + 65 < cLine) (ho : PE X o (tE S Z G W true eo)) (hb : attributeBase o "index" X.env (eval o X.env) = eval o X.env) (hl : (apos.endLine == pos.line) = true)
    (hst : noStar e = true) (he : PE X e (tE S Z G W true ea)) : PE X (.Call (.Attribute o "index" apos) [e] [] pos) (tE S Z G W v (.bi2 .idx eo ea)) := by
  refine (pe_bm PySem.F.plainAttrs_list PySem.F.slot_list_index PySem.F.type_list_index (mt_indexD hu) ho (pa_cons he pa_nil (star_cons hst)) hb (few1 hst) hl (star_cons hst) rfl).weak fun σ H Q h => ?_
  obtain ⟨F, P, a, sr, o⟩ := h
  simp only [ev] at o
  refine ⟨F, P, a, sr, o.bind.imp fun d1 a1 e1 o1 v1 F1 H1 P1 Pa1 ok1 => ?_⟩
  split at o1
  case isFalse => exact o1.elim
  rename_i hr
  cases d1 <;> first | (exact absurd hr Bool.false_ne_true) | skip
  rename_i m ds
  have hv : ∃ p vs, v1 = .ref p ∧ SqL S.K H1 p vs := by
    have r := ok1.rep
    simp only [Rep] at r
    obtain ⟨p, vs, rfl, r⟩ := r
    refine ⟨p, vs, rfl, ?_⟩
    cases m
    · rw [if_neg (by decide)] at r
      exact SqL.of (ok1.sr.sub _ _ r.2.1)
    · rw [if_pos rfl] at r
      exact SqL.of r.1
  obtain ⟨p, vs, rfl, hs⟩ := hv
  refine ⟨.inl ⟨rfl, vs, by rw [← hK]; exact hs⟩, F1, Pa1, a1, ok1.sr, (o1.bind.at ok1.ext).imp fun d2 a2 e2 o2 v2 F2 H2 P2 Pa2 ok2 => ?_⟩
  obtain ⟨d, e, q⟩ := o2.of
  simp only [Option.bind_eq_some_iff] at e
  obtain ⟨d1', es, e⟩ := e
  obtain ⟨P1', r1, _⟩ := stayed ok1 ok2 es rfl rfl
  simp only [bi2] at e
  split at e
  case h_2 => cases e
  rename_i m2 ds2 hx2
  split at e
  case isFalse => cases e
  rename_i hp
  simp only [Bool.and_eq_true] at hp
  simp only [Option.map_eq_some_iff] at e
  obtain ⟨j0, hj0, rfl⟩ := e
  obtain ⟨j, hj, rfl⟩ : ∃ j : Nat, ds2.findIdx? (fun y => eqD y d2) = some j ∧ j0 = (j : Int) := by
    cases hf : ds2.findIdx? (fun y => eqD y d2) with
    | none => rw [hf] at hj0; cases hj0
    | some j => rw [hf] at hj0; cases hj0; exact ⟨j, rfl, rfl⟩
  obtain ⟨hjl, hz, hno⟩ := List.findIdx?_eq_some_iff_getElem.mp hj
  have r1' := r1.dp ok2.sr.sub _ (by have := plain_plain0 hp.2; simpa only [plain0] using this)
  have r2' := ok2.rep.dp ok2.sr.sub _ (plain_plain0 hp.1)
  rw [hK] at r1' r2'
  simp only [toPD] at r1'
  refine ⟨p, v2, toPD d2, toPDs ds2, j, toPD ds2[j], rfl, rfl, r1', r2', ?_, shaped_of hp.1, ?_, hz, ?_, ?_⟩
  · have := shaped_of hp.2
    simpa only [toPD] using this
  · rw [toPDs_map, List.getElem?_map, List.getElem?_eq_getElem hjl]; rfl
  · intro k z' hk hz'
    rw [toPDs_map, List.getElem?_map] at hz'
    have hkl : k < ds2.length := by omega
    rw [List.getElem?_eq_getElem hkl] at hz'
    simp only [Option.map_some, Option.some.injEq] at hz'
    subst hz'
    have := hno k hk
    simpa [eqD] using this
  · exact q _ F2 H2 Emp Pa2 (.flat ok2.sr (ok1.ext.trans ok2.ext) (fun h => pure2 ok1 ok2 (by simpa [atE, pureE] using h)) rfl (rep_int.mpr ⟨rfl, rfl⟩))
theorem k_idx {att : Nat → Str} {k : Nat} {Wd : WX} (c : Ctx X S att k Wd) {eo ea : ME} {o e : Expr} {apos pos : Pos} {v : Bool} (ho : PE X o (tE S Z G W true eo)) (he : PE X e (tE S Z G W true ea)) (hb : attributeBase o "index" X.env (eval o X.env) = eval o X.env := by rfl) (hl : (apos.endLine == pos.line) = true := by rfl) (hst : noStar e = true := by rfl) :
    PE X (.Call (.Attribute o "index" apos) [e] [] pos) (tE S Z G W v (.bi2 .idx eo ea)) := c_idx c.hK c.hu ho hb hl hst he
end
end Ab
namespace Ab
open PySem L2
open Classical
variable {S : Sig} {Wd : WX} {Z : L2.St → Nat → Hp → Prop} {fix : List Nat} {F F' H H' : Hp} {P : Fp} {σ : L2.St} {a a' : SA}

/-! ### two stores of a pair: xs[i], xs[j] = e1, e2 -/
section
variable {X : Cx} {G : Env0A} {W : Nat} {att : Nat → Str}
/-! ### xs[i] op= e -/
end
end Ab
namespace Ab
open PySem L2
/-! Ab39: dicts -/
def tDispT (tk tv : TE) : TE := fun σ H Q => ∀ p, H p = none → tPairs [(tk, tv)] σ (upd H p (.dT [])) fun ps H2 => ∃ b k y, ps = [(.ref b, y)] ∧ H2 b = some (.tup (k.map kV)) ∧ H2 p = some (.dT []) ∧ Q (.ref p) (upd H2 p (.dT [(k, y)]))
section
variable {X : Cx}
theorem pe_dispT {pos : Pos} {k v : Expr} {tk tv : TE} (hu : X.A.units + 1 < cLine) (hk : PE X k tk) (hv : PE X v tv) : PE X (.Dict [some k] [v] pos) (tDispT tk tv) := by
  refine ⟨fun pins s σ H Q I q => ?_⟩
  have hn := I.hok.fresh (Nat.le_refl s.heap.objs.size)
  have I1 := I.laid (a := s.heap.objs.size) (o := .dT []) (h' := s.heap.push { cls := .type "dict", data := .dict #[] }) (t' := s.toks) (fun _ _ q => Heap.get?_push_of_some _ q) (Nat.le_refl _) (dt_empty s.heap I.big)
  have hsh := PySem.zip_pairTrees [some k] [v] X.env pos rfl rfl
  have hln := PySem.pairTrees_length [some k] [v] X.env pos rfl rfl
  rw [arm_eval_Dict, hsh, dictDisplay_pairs (pairTrees [some k] [v] X.env pos) (by intro e; rw [e] at hln; cases hln) (by rw [hln, List.length_singleton]; omega)]
  have hp : PPs X pos [some k] [v] [(tk, tv)] := pps_cons hk hv pps_nil
  refine wpAny_bind (wpAny_standAt (wpAny_bind (wpAny_subDictH (knd := tupleKind (mixKind X.prog X.w)) (by show X.A.units < cLine; omega) (by rw [hln, List.length_singleton]; omega) ?_)))
  refine thn (hp.run pins _ σ _ _ I1 (q _ hn)) ?_
  · rintro ws s2 ⟨ps, H2, I2, rel, b, k1, y, rfl, eb, ep, q2⟩
    cases rel with
    | @cons a b1 as bs h t =>
      cases t
      obtain ⟨b11, b12⟩ := b1
      obtain ⟨h1, h2⟩ := h
      cases (show b11 = Value.ref b from h1)
      obtain ⟨z, hd, xs, rel0, dd⟩ := dt_of I2.hok ep
      cases rel0
      refine ⟨[(k1, b, b12)], ⟨rfl, rfl, key_of I2.hok eb, trivial⟩, dd, fun h' tk' dd' hs => ?_⟩
      refine wpAny_pure ⟨.ref s.heap.objs.size, _, ?_, rfl, q2⟩
      obtain ⟨q, es, ep', hq, h2', h3, h4, _, h5⟩ := dd'
      refine d_write I2 (by rw [ep]; exact True.intro) hs ⟨q, hq⟩ ⟨by rw [List.length_singleton, sizeLine_eq]; decide, hd, _, (show KT _ _ [(k1, b, b12)] from .cons ⟨rfl, ?_, h2⟩ .nil), q, es, ep', hq, h2', h3, h4, h5⟩
      rw [upd_ne (ne_of eb ep (fun z => nomatch z))]
      exact eb
end
variable {S : Sig} {Wd : WX} {Z : L2.St → Nat → Hp → Prop} {fix : List Nat} {F F' H H' : Hp} {P : Fp} {σ : L2.St} {a a' : SA}
theorem Rep.dicO {t : Nat} {ks ds : List D} {vs bs : List V} {p : Addr} {Pd : Fp} (hk : ks.all (kOk t) = true) (hl : ks.length = ds.length) (hb : 2 ≤ t → Reps S F H ks bs Emp) (h : Reps S F H ds vs Pd) (hp : ¬ Pd p) : Rep S F (upd H p (dO p t bs ks vs)) (.dic true t ks ds) (.ref p) (Uni (One p) Pd) := by
  simp only [Rep]
  refine ⟨p, vs, bs, rfl, hk, hl, fun e => Reps.keep (fun _ _ z => z) ks (hb e) fun x z => z.elim, ?_⟩
  rw [if_pos trivial]
  exact ⟨upd_same, .inl rfl, Pd, hp, rfl, Reps.keep (fun _ _ z => z) ds h fun x z => upd_ne fun e => hp (e ▸ z)⟩
theorem New.dic {t : Nat} {ks ds : List D} {vs bs : List V} {p : Addr} (hs : Same F H) (hk : ks.all (kOk t) = true) (hl : ks.length = ds.length) (hb : 2 ≤ t → Reps S F H ks bs Emp) (h : Reps S F H ds vs Emp) (hp : H p = none) : New S F H (.dic true t ks ds) (.ref p) F (upd H p (dO p t bs ks vs)) (One p) := by
  have r := Rep.dicO (p := p) hk hl hb h (fun z => z)
  rw [uni_emp] at r
  exact ⟨r, fun _ _ z => z, same_up hp, hs.trans (same_up hp), fun x e => by have e : x = p := e; rw [e]; exact hp, fun x e => by have e : x = p := e; rw [e]; exact hs.free hp, fun _ o z => .inl ⟨o, z⟩⟩
section
variable {X : Cx} {G : Env0A} {W : Nat} {att : Nat → Str}
theorem c_dnew (t : Nat) {pos : Pos} {v : Bool} : PE X (.Dict [] [] pos) (tE S Z G W v (.dnew t)) := by
  have key : ∀ {σ : L2.St} {H : Hp} {Q : VK} {p : Addr}, H p = none → tE S Z G W v (.dnew t) σ H Q → Q (.ref p) (upd H p (dO p t [] [] [])) := fun {σ H Q p} hp h => by
    obtain ⟨F, P, a, sr, o⟩ := h
    simp only [ev] at o
    have n := New.dic (S := S) (F := F) (t := t) (ks := []) (ds := []) (vs := []) (bs := []) sr.sub rfl rfl (fun _ => by simp only [Reps]; exact ⟨trivial, trivial⟩) (by simp only [Reps]; exact ⟨trivial, trivial⟩) hp
    refine o (.ref p) F _ (One p) P ?_
    have := n.ok (P := P) (σ := σ) (kp := true) sr .refl (fun _ _ _ z => z)
    simpa [atE, rootOf, slotOf, pureE] using this
  by_cases h0 : t = 0
  · refine pe_dnewK.weak fun σ H Q h p hp => ?_
    have := key hp h
    rw [dO, if_pos h0] at this
    exact this
  · by_cases h1 : t = 1
    · refine pe_dnewT.weak fun σ H Q h p hp => ?_
      have := key hp h
      rw [dO, if_neg h0, if_pos h1] at this
      exact this
    · refine pe_newX.weak fun σ H Q h p hp => ?_
      have := key hp h
      rw [dO, if_neg h0, if_neg h1] at this
      exact this
/-- {k: v} -/
theorem dlit_ok {t : Nat} {ea eb : ME} {v : Bool} {H : Hp} {Q : VK} {o0 : HO} {p : Addr} (ho : ∀ ws, o0 ≠ .tup ws) (hp : H p = none) (h : tE S Z G W v (.dlit t ea eb) σ H Q)
    {R : V → V → Hp → Prop} (hR : ∀ F2 H2 kd d x y Pk Pd, Same F2 H2 → Rep S F2 H2 kd x Pk → Rep S F2 H2 d y Pd → kOk t kd = true → still d = true → H2 p = some o0 → Q (.ref p) (upd H2 p (dO p t [x] [kd] [y])) → R x y H2) :
    tE S Z G W true ea σ (upd H p o0) fun x H1 => tE S Z G W false eb σ H1 fun y H2 => R x y H2 := by
  obtain ⟨F, P, a, sr, o⟩ := h
  simp only [ev] at o
  have nP : ¬ P p := fun z => by
    obtain ⟨q, e⟩ := sr.rep.held p z
    rw [hp] at e; cases e
  have up := same_up (o := o0) hp
  have ex0 : Ext F F H (upd H p o0) P P := ⟨fun _ _ z => z, fun x q h _ => up x q h, fun x h => .inl h, fun x q h => .inl ⟨q, h⟩⟩
  have sr0 : SR S F (upd H p o0) a σ P := sr.keepF (fun _ _ z => z) (fun x q h => .inl ⟨q, h⟩) (sr.sub.trans up) up
  refine ⟨F, P, a, sr0, (o.bind.at ex0).imp fun kd a1 e1 o1 x F1 H1 P1 Pa1 ok1 => ⟨F1, Pa1, a1, ok1.sr, (o1.bind.at (ex0.trans ok1.ext)).imp fun d a2 e2 o2 y F2 H2 P2 Pa2 ok2 => ?_⟩⟩
  split at o2
  case isFalse => exact o2.elim
  rename_i hc
  simp only [Bool.and_eq_true] at hc
  have ex12 := ok1.ext.trans ok2.ext
  have e2 : H2 p = some o0 := ex12.kept p o0 upd_same nP
  have nPa : ¬ Pa2 p := fun z => (ex12.own p z).elim nP fun e => by rw [upd_same] at e; cases e
  have nF : F2 p = none := by
    cases q : F2 p with
    | none => rfl
    | some u =>
      rcases ex12.frz p u q with ⟨w, z⟩ | z | z | ⟨ws, z⟩
      · rw [sr.sub.free hp] at z; cases z
      · exact (nP z).elim
      · rw [upd_same] at z; cases z
      · rw [upd_same] at z; exact (ho ws (Option.some.inj z)).elim
  have hpd := ok2.rep.still d hc.2
  subst hpd
  have rk : Rep S F2 H2 kd x Emp := by
    have hks : still kd = true := by
      rcases kOk_of hc.1 with ⟨_, i, rfl⟩ | ⟨_, l, rfl⟩ | ⟨_, l, rfl, _⟩ <;> rfl
    have hpk := ok1.rep.still kd hks
    subst hpk
    exact ok2.ext.aside ok1.rep emp_dis
  refine hR F2 H2 kd d x y Emp Emp ok2.sr.sub rk ok2.rep hc.1 hc.2 e2 ?_
  have rds : Reps S F2 H2 [d] [y] Emp := by
    simp only [Reps]
    exact ⟨y, [], Emp, Emp, rfl, (uni_emp _).symm, emp_dis, ok2.rep, rfl, rfl⟩
  have rks : Reps S F2 H2 [kd] [x] Emp := by
    simp only [Reps]
    exact ⟨x, [], Emp, Emp, rfl, (uni_emp _).symm, emp_dis, rk, rfl, rfl⟩
  have rn := Rep.dicO (p := p) (t := t) (ks := [kd]) (ds := [d]) (by simp [hc.1]) rfl (fun _ => rks) rds (fun z => z)
  rw [uni_emp] at rn
  have sub2 : Same F2 (upd H2 p (dO p t [x] [kd] [y])) := fun b q e => by
    rw [upd_ne (show b ≠ p from fun z => by rw [z, nF] at e; cases e)]
    exact ok2.sr.sub b q e
  have sr2 : SR S F2 (upd H2 p (dO p t [x] [kd] [y])) a2 σ Pa2 := ⟨ok2.sr.rep.keep (fun _ _ z => z) fun b hb => upd_ne fun z => nPa (z ▸ hb), ok2.sr.fr, sub2⟩
  have exA : Ext F F2 H H2 P Pa2 := ex0.trans ex12
  have exB : Ext F F2 H (upd H2 p (dO p t [x] [kd] [y])) P Pa2 := ⟨exA.same, fun b q e n => by
    rw [upd_ne (show b ≠ p from fun z => by rw [z, hp] at e; cases e)]
    exact exA.kept b q e n, exA.own, exA.frz⟩
  have exC : Ext F F2 H (upd H2 p (dO p t [x] [kd] [y])) P (Uni (One p) Pa2) := ⟨exB.same, exB.kept, fun b h => h.elim (fun z => .inr (by have z : b = p := z; rw [z]; exact hp)) (exB.own b), exB.frz⟩
  refine o2 _ F2 _ (One p) Pa2 ⟨rn, sr2, exB, fun _ => exC, fun _ => fun b h1 h2 => by have h1 : b = p := h1; exact nPa (h1 ▸ h2), fun _ b h1 => by have h1 : b = p := h1; rw [h1]; exact nF, fun hkp => fun b q e => ?_, fun i h => by simp [atE, slotOf] at h⟩
  simp only [atE, pureE, Bool.and_eq_true] at hkp
  rw [upd_ne (show b ≠ p from fun z => by rw [z, hp] at e; cases e)]
  exact ok2.same hkp.2 b q (ok1.same hkp.1 b q (up b q e))
theorem c_dlit (t : Nat) {ea eb : ME} {k x : Expr} {pos : Pos} {v : Bool} (hu : X.A.units + 20 < cLine) (hk : PE X k (tE S Z G W true ea)) (hx : PE X x (tE S Z G W false eb)) : PE X (.Dict [some k] [x] pos) (tE S Z G W v (.dlit t ea eb)) := by
  by_cases h0 : t = 0
  · refine (pe_disp (pps_cons hk hx pps_nil) rfl rfl (by simp) (by simp)).weak fun σ H Q h p hp => ?_
    refine dlit_ok (fun ws z => by cases z) hp h fun F2 H2 kd d x y Pk Pd sub rk rd hko hst e2 q => ?_
    subst h0
    have ek := (key_at sub rk).1 hko
    subst ek
    refine ⟨e2, [(kI kd, y)], rfl, by simp, ?_⟩
    exact q
  · by_cases h1 : t = 1
    · refine (pe_dispT (by omega) hk hx).weak fun σ H Q h p hp => ?_
      refine dlit_ok (fun ws z => by cases z) hp h fun F2 H2 kd d x y Pk Pd sub rk rd hko hst e2 q => ?_
      subst h1
      obtain ⟨b, rfl, eb⟩ := (key_at sub rk).2.1 hko
      exact ⟨b, _, y, rfl, eb, e2, q⟩
    · refine (pe_dispX hu hk hx).weak fun σ H Q h p hp => ?_
      refine dlit_ok (fun ws z => by cases z) hp h fun F2 H2 kd d x y Pk Pd sub rk rd hko hst e2 q => ?_
      rcases kOk_of hko with ⟨e, _⟩ | ⟨e, _⟩ | ⟨e, _⟩
      · exact absurd e h0
      · exact absurd e h1
      · subst e
        obtain ⟨b, rfl, kn, dp, nu⟩ := (key_at sub rk).2.2 hko
        exact ⟨b, _, y, rfl, kn, dp, nu, e2, q⟩
theorem getK_some {d k e : D} (h : getK d k = some e) : ∃ m t ks ds, d = .dic m t ks ds ∧ kOk t k = true ∧ dval ks ds k = some e := by
  cases d <;> simp only [getK, reduceCtorEq] at h
  split at h
  · rename_i hk; exact ⟨_, _, _, _, rfl, hk, h⟩
  · cases h
theorem c_dget {ea ei : ME} {x i : Expr} {pos : Pos} {v : Bool} (hu : X.A.units + 20 < cLine) (ha : PE X x (tE S Z G W true ea)) (hi : PE X i (tE S Z G W true ei)) (hn : NoSl i) : PE X (.Subscript x i pos) (tE S Z G W v (.dget ea ei)) := by
  refine (pe_aget hu ha hi hn).weak fun σ H Q h => ?_
  refine tA_two (ta := atE true ea) (tb := atE true ei) h fun F P a d1 a1 v1 F1 H1 P1 Pa1 d2 a2 v2 F2 H2 P2 Pa2 sr o1 o2 out => ?_
  split at out
  · rename_i d ed
    simp only [Option.bind_eq_some_iff] at ed
    obtain ⟨d1', es, ed⟩ := ed
    obtain ⟨P1', r1, q1⟩ := stayed o1 o2 es rfl rfl
    obtain ⟨m, t, ks, ds, rfl, hk, hv⟩ := getK_some ed
    obtain ⟨p, rfl, hg⟩ := dget_rep o2.sr.sub r1 o2.rep hk
    rcases hg with ⟨_, d', w, Pd, h2, h3, r, sb⟩ | ⟨_, h2, _⟩
    · rw [hv] at h2; cases h2
      refine ⟨p, w, rfl, h3, ?_⟩
      split at out
      · rename_i hst
        have e0 := r.still d hst
        subst e0
        exact out w F2 H2 Emp Pa2 (.flat o2.sr (o1.ext.trans o2.ext) (fun h => pure2 o1 o2 (by simpa [atE, pureE] using h)) rfl r)
      · exact out.elim
    · rw [hv] at h2; cases h2
  · exact out.elim
theorem kOk_still {t : Nat} {k : D} (h : kOk t k = true) : still k = true := by
  rcases kOk_of h with ⟨_, i, rfl⟩ | ⟨_, l, rfl⟩ | ⟨_, l, rfl, _⟩ <;> rfl
/-! stores -/
def vupd : List D → List V → D → V → List V
  | k :: ks, u :: vs, x, w => (if eqD k x then w else u) :: vupd ks vs x w
  | _, _, _, _ => []
theorem dupd_len : ∀ (ks ds : List D) (x d : D), ks.length = ds.length → (dupd ks ds x d).length = ks.length
  | [], ds, x, d, h => by cases ds <;> rfl
  | k :: ks, [], x, d, h => by simp at h
  | k :: ks, e :: ds, x, d, h => by simp [dupd, dupd_len ks ds x d (by simpa using h)]
theorem put_zip {κ : Type} [DecidableEq κ] (ky : D → κ) {t : Nat} (he : ∀ a b, kOk t a = true → kOk t b = true → eqD a b = decide (ky a = ky b)) {kd : D} (hk : kOk t kd = true) (w : V) : ∀ {ks : List D} {vs : List V}, ks.all (kOk t) = true → ks.length = vs.length →
    (((ks.map ky).zip vs).map fun kv => if kv.1 = ky kd then (kv.1, w) else kv) = (ks.map ky).zip (vupd ks vs kd w)
  | [], vs, _, hl => by cases vs <;> rfl
  | k :: ks, [], _, hl => by simp at hl
  | k :: ks, u :: vs, ha, hl => by
    simp only [List.all_cons, Bool.and_eq_true] at ha
    have e := he k kd ha.1 hk
    simp only [List.map_cons, List.zip_cons_cons, vupd, put_zip ky he hk w ha.2 (show ks.length = vs.length by simpa using hl)]
    by_cases h : ky k = ky kd
    · rw [decide_eq_true h] at e; simp [h, e]
    · rw [decide_eq_false h] at e; simp [h, e]
theorem any_zip {κ : Type} [DecidableEq κ] (ky : D → κ) {t : Nat} (he : ∀ a b, kOk t a = true → kOk t b = true → eqD a b = decide (ky a = ky b)) {kd : D} (hk : kOk t kd = true) : ∀ {ks : List D} {vs : List V}, ks.all (kOk t) = true → ks.length = vs.length →
    (((ks.map ky).zip vs).any fun kv => decide (kv.1 = ky kd)) = memD kd ks
  | [], vs, _, hl => by cases vs <;> rfl
  | k :: ks, [], _, hl => by simp at hl
  | k :: ks, u :: vs, ha, hl => by
    simp only [List.all_cons, Bool.and_eq_true] at ha
    have ih := any_zip ky he hk ha.2 (show ks.length = vs.length by simpa using hl)
    simp only [List.map_cons, List.zip_cons_cons, List.any_cons, ih, memD, he k kd ha.1 hk]
theorem zip_snoc {α β : Type} {a : α} {b : β} : ∀ {l : List α} {m : List β}, l.length = m.length → l.zip m ++ [(a, b)] = (l ++ [a]).zip (m ++ [b])
  | [], m, h => by cases m <;> simp at h ⊢
  | x :: l, [], h => by simp at h
  | x :: l, y :: m, h => by simp only [List.zip_cons_cons, List.cons_append, zip_snoc (show l.length = m.length by simpa using h)]
theorem Reps.upd {kd d : D} {w : V} (rd : Rep S F H d w Emp) : ∀ {ks ds : List D} {vs : List V} {P : Fp}, ks.length = ds.length → Reps S F H ds vs P → ∃ P2, Reps S F H (dupd ks ds kd d) (vupd ks vs kd w) P2 ∧ ∀ x, P2 x → P x
  | [], ds, vs, P, hl, r => by
    cases ds with
    | nil => simp only [Reps] at r; obtain ⟨rfl, rfl⟩ := r; exact ⟨Emp, by simp [dupd, vupd, Reps], fun x z => z⟩
    | cons _ _ => simp at hl
  | k :: ks, [], vs, P, hl, r => by simp at hl
  | k :: ks, e :: ds, vs, P, hl, r => by
    simp only [Reps] at r
    obtain ⟨v, vr, P1, P2, rfl, rfl, di, r1, r2⟩ := r
    obtain ⟨P3, r3, sb⟩ := Reps.upd rd (kd := kd) (show ks.length = ds.length by simpa using hl) r2
    simp only [dupd, vupd, Reps]
    by_cases h : eqD k kd = true
    · rw [if_pos h, if_pos h]
      exact ⟨P3, ⟨w, _, Emp, P3, rfl, (emp_uni _).symm, emp_dis, rd, r3⟩, fun x z => .inr (sb x z)⟩
    · rw [if_neg h, if_neg h]
      exact ⟨Uni P1 P3, ⟨v, _, P1, P3, rfl, rfl, fun x h1 h2 => di x h1 (sb x h2), r1, r3⟩, fun x z => z.elim .inl fun z => .inr (sb x z)⟩
theorem s_dset {i : Nat} {mk me : ME} {x : Str} {k e : Expr} {px p1 pos : Pos} (hu : X.A.units + 20 < cLine) (hN : X.N[i]? = some x) (hv : Vis X.env.scope x) (hd : (x == ("__debug__" : Str)) = false) (hcd : (x == ("__classdict__" : Str)) = false)
    (hk : PE X k (tEw S Wd G W true mk)) (he : PE X e (tEw S Wd G W false me)) : PS X (.Assign [.Subscript (.Name x px) k p1] e pos) (tSt S Wd G W fix (.dset i mk me)) :=
  (ps_aput hu (pe_var hN hv hd hcd) hk he (sw_other (t := .Subscript (.Name x px) k p1) (l := pos.line) (env := X.env) rfl)).weak fun E σ H h => by
    obtain ⟨F, P, a, sr, out⟩ := h
    simp only [ex] at out
    refine ⟨F, P, a, sr, out.head.imp fun d a1 e1 o1 v F1 H1 P1 Pa1 ok1 => ?_⟩
    split at o1
    case isFalse => exact o1.elim
    rename_i hsome
    obtain ⟨d0, hd0⟩ := Option.isSome_iff_exists.mp hsome
    obtain ⟨w, _, _, ew, _⟩ := ok1.sr.rep.focus (rd_some hd0)
    refine ⟨w, ew, F1, Pa1, a1, ok1.sr, (o1.head.at ok1.ext).imp fun kd a2 e2 o2 y F2 H2 P2 Pa2 ok2 => ?_⟩
    split at o2
    case h_2 => exact o2.elim
    rename_i t ks ds hrd
    split at o2
    case isFalse => exact o2.elim
    rename_i hc
    simp only [Bool.and_eq_true] at hc
    obtain ⟨⟨hk, hst⟩, hln⟩ := hc
    have e0 := ok1.rep.still d hst
    subst e0
    have rv := ok2.ext.aside ok1.rep emp_dis
    obtain ⟨w', R1, R2, ew', eP, di, re, _, up⟩ := ok2.sr.rep.focus (rd_some hrd)
    rw [ew] at ew'; cases ew'
    simp only [Rep] at re
    obtain ⟨p, vs, bs, rfl, hks, hl, hb, re⟩ := re
    rw [if_pos trivial] at re
    obtain ⟨ep, _, P', np, rfl, rs⟩ := re
    have hvl := Reps.len rs
    have hFp : F2 p = none := ok2.sr.fr p (by rw [eP]; exact .inl (.inl rfl))
    have n2 : ¬ R2 p := fun z => di p (.inl rfl) z
    have hlt : ks.length < sizeLine := by simpa [line] using hln
    -- the dict as it is stored
    have hpy : kOk 2 kd = true → Rep S F2 H2 kd y Emp := fun hk2 => by
      have := ok2.rep.still kd (kOk_still hk2)
      subst this
      exact ok2.rep
    obtain ⟨ks', ds', vs', bs', Q', en, hks', hl', hb', rs', sb, hput⟩ : ∃ ks' ds' vs' bs' Q', dput t ks ds kd d = .dic true t ks' ds' ∧ ks'.all (kOk t) = true ∧ ks'.length = ds'.length ∧ (2 ≤ t → Reps S F2 H2 ks' bs' Emp) ∧ Reps S F2 H2 ds' vs' Q' ∧ (∀ x, Q' x → P' x) ∧ PutA H2 p y v (upd H2 p (dO p t bs' ks' vs')) := by
      have core : ∃ ks' ds' vs' Q', dput t ks ds kd d = .dic true t ks' ds' ∧ ks'.all (kOk t) = true ∧ ks'.length = ds'.length ∧ Reps S F2 H2 ds' vs' Q' ∧ (∀ x, Q' x → P' x) ∧ ks' = (if memD kd ks = true then ks else ks ++ [kd]) ∧
          (∀ (κ : Type) [DecidableEq κ] (ky : D → κ), (∀ a b, kOk t a = true → kOk t b = true → eqD a b = decide (ky a = ky b)) → putK ((ks.map ky).zip vs) (ky kd) v = (ks'.map ky).zip vs') := by
        by_cases hm : memD kd ks = true
        · obtain ⟨Q', r', sb⟩ := Reps.upd (kd := kd) rv hl rs
          refine ⟨ks, _, _, Q', by rw [dput, if_pos hm], hks, (dupd_len ks ds kd d hl).symm, r', sb, by rw [if_pos hm], fun κ _ ky he => ?_⟩
          have h1 := any_zip (vs := vs) ky he hk hks (by omega)
          rw [hm] at h1
          rw [putK, if_pos h1]
          exact put_zip ky he hk v hks (by omega)
        · have hm0 := hm
          have hm := Bool.not_eq_true _ |>.mp hm
          refine ⟨ks ++ [kd], ds ++ [d], vs ++ [v], Uni P' Emp, by rw [dput, hm]; rfl, by rw [List.all_append, hks]; simp [hk], by simp [hl], rs.snoc rv dis_emp, fun x z => z.elim id False.elim, by rw [if_neg hm0], fun κ _ ky he => ?_⟩
          have h1 := any_zip (vs := vs) ky he hk hks (by omega)
          rw [hm] at h1
          rw [putK, if_neg (by rw [h1]; decide), zip_snoc (by rw [List.length_map]; omega), List.map_append]; rfl
      obtain ⟨ks', ds', vs', Q', h1, h2, h3, h4, h5, h7, h6⟩ := core
      obtain ⟨k0, k1, k2⟩ := key_at ok2.sr.sub ok2.rep
      have hzl : ∀ (κ : Type) (ky : D → κ), ((ks.map ky).zip vs).length < sizeLine := fun κ ky => by rw [List.length_zip, List.length_map]; omega
      rcases kOk_of hk with ⟨rfl, _⟩ | ⟨rfl, _⟩ | ⟨rfl, _⟩
      · have ey := k0 hk
        subst ey
        have := DPut.k (v := v) (k := kI kd) (show H2 p = some (.dK ((ks.map kI).zip vs)) from ep) (hzl _ _)
        rw [h6 _ kI fun a b => eqD_kI] at this
        exact ⟨ks', ds', vs', [], Q', h1, h2, h3, fun e => absurd e (by decide), h4, h5, .inl this⟩
      · obtain ⟨b, rfl, eb⟩ := k1 hk
        have := DPut.t (v := v) (show H2 p = some (.dT ((ks.map kT).zip vs)) from ep) eb (hzl _ _)
        rw [h6 _ kT fun a b => eqD_kT] at this
        exact ⟨ks', ds', vs', [], Q', h1, h2, h3, fun e => absurd e (by decide), h4, h5, .inl this⟩
      · obtain ⟨b, rfl, kn, dp, nu⟩ := k2 hk
        have kb := kb_of ok2.sr.sub hks (show vs.length = ks.length by omega) (hb (Nat.le_refl 2))
        have hm2 : (valV ((ks.map nk).zip vs) (nk kd)).isSome = memD kd ks := by
          rw [← valV_any, any_zip (vs := vs) nk (fun a b => eqD_kN) hk hks (by omega)]
        refine ⟨ks', ds', vs', putB ((ks.map nk).zip vs) bs (nk kd) (.ref b), Q', h1, h2, h3, fun _ => ?_, h4, h5, .inr ⟨_, bs, nk kd, b, (show H2 p = some (.ext (DX p ((ks.map nk).zip vs) bs)) from ep), kb, rfl, kn, dp, nu, hzl _ _, ?_⟩⟩
        · rw [h7, putB, hm2]
          by_cases hm : memD kd ks = true
          · rw [if_pos hm, if_pos hm]; exact hb (Nat.le_refl 2)
          · rw [if_neg hm, if_neg hm]
            have := (hb (Nat.le_refl 2)).snoc (hpy hk) dis_emp
            rw [uni_emp] at this
            exact this
        · rw [h6 _ nk fun a b => eqD_kN]; rfl
    refine ⟨p, _, rfl, hput, ?_⟩
    have nQ : ¬ Q' p := fun z => np (sb p z)
    have rl := Rep.dicO (p := p) hks' hl' hb' rs' nQ
    have d2 : Dis (Uni (One p) Q') R2 := Dis.uni (fun x h1 h2 => by have h1 : x = p := h1; rw [h1] at h2; exact n2 h2) fun x h1 h2 => di x (.inr (sb x h1)) h2
    have rS := up F2 (upd H2 p (dO p t bs' ks' vs')) R2 (RepS.keep (fun _ _ z => z) ‹_› fun x hx => upd_ne fun z => n2 (z ▸ hx)) _ _ rl d2
    have sbA : ∀ x, Uni (Uni (One p) Q') R2 x → Pa2 x := fun x h => by
      rw [eP]
      rcases h with (h | h) | h
      · exact .inl (.inl h)
      · exact .inl (.inr (sb x h))
      · exact .inr h
    have sr4 : SR S F2 (upd H2 p (dO p t bs' ks' vs')) (a2.set i (some (dput t ks ds kd d))) σ (Uni (Uni (One p) Q') R2) := ⟨by rw [en]; exact rS, fun x h => ok2.sr.fr x (sbA x h), fun x q e => by
      rw [upd_ne (show x ≠ p from fun z => by rw [z, hFp] at e; cases e)]
      exact ok2.sr.sub x q e⟩
    exact o2 σ F2 _ _ sr4 ((ok1.ext.trans ok2.ext).trans ((Ext.updIn (by rw [eP]; exact .inl (.inl rfl))).less sbA)) Fix.rfl'
theorem k_dnew (t : Nat) {pos : Pos} {v : Bool} : PE X (.Dict [] [] pos) (tE S Z G W v (.dnew t)) := c_dnew t
variable {k : Nat}
theorem k_dlit (c : Ctx X S att k Wd) (t : Nat) {ea eb : ME} {x y : Expr} {pos : Pos} {v : Bool} (ha : PE X x (tE S Z G W true ea)) (hb : PE X y (tE S Z G W false eb)) : PE X (.Dict [some x] [y] pos) (tE S Z G W v (.dlit t ea eb)) := c_dlit t (by have := c.hu; omega) ha hb
theorem k_dget (c : Ctx X S att k Wd) {ea ei : ME} {x i : Expr} {pos : Pos} {v : Bool} (ha : PE X x (tE S Z G W true ea)) (hi : PE X i (tE S Z G W true ei)) (hn : NoSl i := by intro _ _; rfl) : PE X (.Subscript x i pos) (tE S Z G W v (.dget ea ei)) := c_dget (by have := c.hu; omega) ha hi hn
theorem ks_dset (c : Ctx X S att k Wd) (i : Nat) {mk me : ME} {x : Str} {e1 e : Expr} {px p1 pos : Pos} (hk : PE X e1 (tEw S Wd G W true mk)) (he : PE X e (tEw S Wd G W false me)) (hN : X.N[i]? = some x := by rfl) (hv : Vis X.env.scope x := by first | exact Or.inl rfl | exact Or.inr (Or.inl rfl) | exact Or.inr (Or.inr rfl))
    (hd : (x == ("__debug__" : Str)) = false := by decide) (hcd : (x == ("__classdict__" : Str)) = false := by decide) : PS X (.Assign [.Subscript (.Name x px) e1 p1] e pos) (tSt S Wd G W fix (.dset i mk me)) := s_dset (by have := c.hu; omega) hN hv hd hcd hk he
end
end Ab
namespace Ab
open PySem L2
variable {S : Sig} {Z : L2.St → Nat → Hp → Prop} {F F' H H' : Hp} {P : Fp} {σ : L2.St} {a a' : SA}
/-! Ab40: texts, counts, the least of tuples, list(range(..)), methods -/
section
variable {X : L2.Cx} {G : Env0A} {W : Nat}
/-! l.count(x) -/
/-! min of tuples -/
mutual
theorem toPD_inj : ∀ a b : D, nOk a = true → nOk b = true → toPD a = toPD b → a = b
  | .int i, .int j, _, _, h => by simp only [toPD, PySem.PyData.int.injEq] at h; rw [h]
  | .int i, .tup b, _, _, h => by simp [toPD] at h
  | .tup a, .int j, _, _, h => by simp [toPD] at h
  | .tup a, .tup b, ha, hb, h => by
    simp only [toPD, PySem.PyData.tuple.injEq] at h
    rw [toPDs_inj a b (by simpa only [nOk] using ha) (by simpa only [nOk] using hb) h]
  | .non, _, h, _, _ => by simp [nOk] at h
  | .bl _, _, h, _, _ => by simp [nOk] at h
  | .str _, _, h, _, _ => by simp [nOk] at h
  | .lst _ _, _, h, _, _ => by simp [nOk] at h
  | .ins _ _ _, _, h, _, _ => by simp [nOk] at h
  | .scr _, _, h, _, _ => by simp [nOk] at h
  | .dic _ _ _ _, _, h, _, _ => by simp [nOk] at h
  | .clo _ _, _, h, _, _ => by simp [nOk] at h
  | .fn _ _, _, h, _, _ => by simp [nOk] at h
  | .tbs, _, h, _, _ => by simp [nOk] at h
  | .int _, .non, _, h, _ => by simp [nOk] at h
  | .int _, .bl _, _, h, _ => by simp [nOk] at h
  | .int _, .str _, _, h, _ => by simp [nOk] at h
  | .int _, .lst _ _, _, h, _ => by simp [nOk] at h
  | .int _, .ins _ _ _, _, h, _ => by simp [nOk] at h
  | .int _, .scr _, _, h, _ => by simp [nOk] at h
  | .int _, .dic _ _ _ _, _, h, _ => by simp [nOk] at h
  | .int _, .clo _ _, _, h, _ => by simp [nOk] at h
  | .int _, .fn _ _, _, h, _ => by simp [nOk] at h
  | .int _, .tbs, _, h, _ => by simp [nOk] at h
  | .tup _, .non, _, h, _ => by simp [nOk] at h
  | .tup _, .bl _, _, h, _ => by simp [nOk] at h
  | .tup _, .str _, _, h, _ => by simp [nOk] at h
  | .tup _, .lst _ _, _, h, _ => by simp [nOk] at h
  | .tup _, .ins _ _ _, _, h, _ => by simp [nOk] at h
  | .tup _, .scr _, _, h, _ => by simp [nOk] at h
  | .tup _, .dic _ _ _ _, _, h, _ => by simp [nOk] at h
  | .tup _, .clo _ _, _, h, _ => by simp [nOk] at h
  | .tup _, .fn _ _, _, h, _ => by simp [nOk] at h
  | .tup _, .tbs, _, h, _ => by simp [nOk] at h
theorem toPDs_inj : ∀ a b : List D, nOks a = true → nOks b = true → toPDs a = toPDs b → a = b
  | [], [], _, _, _ => rfl
  | [], _ :: _, _, _, h => by simp [toPDs] at h
  | _ :: _, [], _, _, h => by simp [toPDs] at h
  | a :: as, b :: bs, ha, hb, h => by
    simp only [nOks, Bool.and_eq_true] at ha hb
    simp only [toPDs, List.cons.injEq] at h
    rw [toPD_inj a b ha.1 hb.1 h.1, toPDs_inj as bs ha.2 hb.2 h.2]
end
mutual
theorem nOk_plain : ∀ d : D, nOk d = true → plain0 d = true ∧ (toPD d).depth = (nk d).depth
  | .int i, _ => by simp only [plain0, toPD, PySem.PyData.depth, nk, PySem.NestedKey.depth, and_self]
  | .tup ds, h => by
    have := nOks_plain ds (by simpa only [nOk] using h)
    simp only [plain0, toPD, PySem.PyData.depth, nk, PySem.NestedKey.depth]
    exact ⟨this.1, by rw [this.2]⟩
  | .non, h => by simp [nOk] at h
  | .bl _, h => by simp [nOk] at h
  | .str _, h => by simp [nOk] at h
  | .lst _ _, h => by simp [nOk] at h
  | .ins _ _ _, h => by simp [nOk] at h
  | .scr _, h => by simp [nOk] at h
  | .dic _ _ _ _, h => by simp [nOk] at h
  | .clo _ _, h => by simp [nOk] at h
  | .fn _ _, h => by simp [nOk] at h
  | .tbs, h => by simp [nOk] at h
theorem nOks_plain : ∀ ds : List D, nOks ds = true → plains0 ds = true ∧ PySem.PyData.depthAll (toPDs ds) = PySem.NestedKey.depthAll (nks ds)
  | [], _ => by simp only [plains0, toPDs, PySem.PyData.depthAll, nks, PySem.NestedKey.depthAll, and_self]
  | d :: ds, h => by
    simp only [nOks, Bool.and_eq_true] at h
    have h1 := nOk_plain d h.1
    have h2 := nOks_plain ds h.2
    simp only [plains0, toPDs, PySem.PyData.depthAll, nks, PySem.NestedKey.depthAll, h1.1, h2.1, Bool.and_self, true_and, h1.2, h2.2]
end
/-! list(range(n)), tuple(range(n)) -/
theorem rgV_map (j : Int) : rgV 0 j = ((List.range j.toNat).map fun (i : Nat) => (i : Int)).map V.int := by
  unfold rgV
  rw [List.map_map, show j - 0 = j by omega]
  apply List.map_congr_left
  intro i _
  simp
theorem rng_map (j : Int) : ((List.range j.toNat).map fun (i : Nat) => D.int i) = ((List.range j.toNat).map fun (i : Nat) => (i : Int)).map D.int := by rw [List.map_map]; rfl
theorem c_lrng {ea : ME} {e : Expr} {p p2 pos pos2 : Pos} {v : Bool} (hc : X.calm = true) (hg : Gl X "list") (hm : X.mg "list" = none) (hg2 : Gl X "range") (hm2 : X.mg "range" = none) (hst : noStar e = true) (ha : PE X e (tE S Z G W true ea)) :
    PE X (.Call (.Name "list" p) [.Call (.Name "range" p2) [e] [] pos2] [] pos) (tE S Z G W v (.bi1 .lrng ea)) := by
  refine (pe_listRg hc hg hm (prg_1 hg2 hm2 ha (star_cons hst))).weak fun σ H Q h => ?_
  refine tA_one (ta := atE true ea) h fun F P a d1 a1 v1 F1 H1 P1 Pa1 sr o1 out => ?_
  obtain ⟨d, e, q⟩ := out.of
  have e0 : bi1 .lrng d1 = some d := by
    unfold tmpz at e
    split at e
    · cases d1 <;> simp only [frz] at e <;> first | exact e | (simp [bi1] at e)
    · exact e
  cases d1 <;> simp only [bi1, reduceCtorEq] at e0
  rename_i j
  split at e0
  case isFalse => cases e0
  rename_i hj
  cases e0
  simp only [Bool.and_eq_true, decide_eq_true_eq] at hj
  obtain ⟨b1, b2⟩ := inR_iff hj.1
  obtain ⟨rfl, _⟩ := rep_int.mp o1.rep
  refine ⟨j, rfl, ⟨by omega, by omega, b1, b2, by omega⟩, fun p hp => ?_⟩
  rw [rgV_map]
  rw [rng_map] at q
  have n := New.lst (S := S) o1.sr.sub (Reps.ofInts ((List.range j.toNat).map fun (i : Nat) => (i : Int))) hp
  have := n.ok (F := F) (P := P) (σ := σ) o1.sr o1.ext o1.same
  exact q _ _ _ _ Pa1 (by simpa [atE, rootOf, slotOf, pureE] using this)
theorem c_trng {ea : ME} {e : Expr} {p p2 pos pos2 : Pos} {v : Bool} (hc : X.calm = true) (hg : Gl X "tuple") (hm : X.mg "tuple" = none) (hg2 : Gl X "range") (hm2 : X.mg "range" = none) (hst : noStar e = true) (ha : PE X e (tE S Z G W true ea)) :
    PE X (.Call (.Name "tuple" p) [.Call (.Name "range" p2) [e] [] pos2] [] pos) (tE S Z G W v (.bi1 .trng ea)) := by
  refine (pe_tupRg hc hg hm (prg_1 hg2 hm2 ha (star_cons hst))).weak fun σ H Q h => ?_
  refine tA_one (ta := atE true ea) h fun F P a d1 a1 v1 F1 H1 P1 Pa1 sr o1 out => ?_
  obtain ⟨d, e, q⟩ := out.of
  have e0 : bi1 .trng d1 = some d := by
    unfold tmpz at e
    split at e
    · cases d1 <;> simp only [frz] at e <;> first | exact e | (simp [bi1] at e)
    · exact e
  cases d1 <;> simp only [bi1, reduceCtorEq] at e0
  rename_i j
  split at e0
  case isFalse => cases e0
  rename_i hj
  cases e0
  simp only [Bool.and_eq_true, decide_eq_true_eq] at hj
  obtain ⟨b1, b2⟩ := inR_iff hj.1
  obtain ⟨rfl, _⟩ := rep_int.mp o1.rep
  refine ⟨j, rfl, ⟨by omega, by omega, b1, b2, by omega⟩, fun p hp => ?_⟩
  rw [rgV_map]
  rw [rng_map] at q
  have n := New.tup (S := S) o1.sr.sub (Reps.ofInts ((List.range j.toNat).map fun (i : Nat) => (i : Int))) hp
  have := n.ok (F := F) (P := P) (σ := σ) o1.sr o1.ext o1.same
  exact q _ _ _ _ Pa1 (by simpa [atE, rootOf, slotOf, pureE] using this)
theorem k_lrng {att : Nat → Str} {k : Nat} {Wd : WX} (c : Ctx X S att k Wd) {ea : ME} {e : Expr} {p p2 pos pos2 : Pos} {v : Bool} (hm : X.mg "list" = none) (hm2 : X.mg "range" = none) (ha : PE X e (tE S Z G W true ea)) (hg : Gl X "list" := by rfl) (hg2 : Gl X "range" := by rfl) (hst : noStar e = true := by rfl) :
    PE X (.Call (.Name "list" p) [.Call (.Name "range" p2) [e] [] pos2] [] pos) (tE S Z G W v (.bi1 .lrng ea)) := c_lrng c.calm hg hm hg2 hm2 hst ha
theorem k_trng {att : Nat → Str} {k : Nat} {Wd : WX} (c : Ctx X S att k Wd) {ea : ME} {e : Expr} {p p2 pos pos2 : Pos} {v : Bool} (hm : X.mg "tuple" = none) (hm2 : X.mg "range" = none) (ha : PE X e (tE S Z G W true ea)) (hg : Gl X "tuple" := by rfl) (hg2 : Gl X "range" := by rfl) (hst : noStar e = true := by rfl) :
    PE X (.Call (.Name "tuple" p) [.Call (.Name "range" p2) [e] [] pos2] [] pos) (tE S Z G W v (.bi1 .trng ea)) := c_trng c.calm hg hm hg2 hm2 hst ha
end
/-! methods -/
/-- one method of one class -/
structure Meth1 (P : Program) (w : World) (K : PySem.W.Frag) (mg : Str → Option Value) (base : Heap) (S : Sig) (ci : Nat) (mn : Str) (fix : List Nat) (g : Callee) (k : Nat) : Prop where
  ex : ∃ (cl : Cl), S.cls ci = some cl ∧ ∃ (fa : Addr) (fd : FuncData) (ps : List Str), Meth K cl.addr mn fa ∧ FnOk P w K mg base (L2.CX P w) k fa fd ps (spA S fix g) ∧ Binds K fd ps [] ∧ ∀ f ∈ cl.fields, f ≠ mn
theorem Meth1.at_ {P : Program} {w : World} {K : PySem.W.Frag} {mg : Str → Option Value} {base : Heap} {S : Sig} {ci : Nat} {mn : Str} {fix : List Nat} {g : Callee} {k : Nat} (L : Meth1 P w K mg base S ci mn fix g k) {cl : Cl} (h : S.cls ci = some cl) :
    (∃ (fa : Addr) (fd : FuncData) (ps : List Str), Meth K cl.addr mn fa ∧ FnOk P w K mg base (L2.CX P w) k fa fd ps (spA S fix g) ∧ Binds K fd ps []) ∧ ∀ f ∈ cl.fields, f ≠ mn := by
  obtain ⟨cl', e, fa, fd, ps, h1, h2, h3, h4⟩ := L.ex
  rw [h] at e; cases e
  exact ⟨⟨fa, fd, ps, h1, h2, h3⟩, h4⟩
section
variable {X : L2.Cx} {G : Env0A} {W : Nat} {att : Nat → Str} {k : Nat} {Wd : WX}
end
end Ab
namespace Ab
open PySem L2
/-! Ab41: try: return e / except C: suite -/
/-- an own exception class that may be caught -/
structure ExCatch (K : PySem.W.Frag) (mg : Str → Option Value) (S : Sig) (ci : Nat) (x : Str) : Prop where
  ex : ∃ C, S.exn ci = .ref C ∧ mg x = some (.ref C) ∧ PySem.W.exmOne K (.ref C) (.ref C) = some true
theorem exCatch_mk {K : PySem.W.Frag} {mg : Str → Option Value} {S : Sig} {ci : Nat} {x : Str} {C : Addr} (e : S.exn ci = .ref C) (g : mg x = some (.ref C)) (b : PySem.W.subIn K (.ref C) (.type "BaseException") = some true) (h : PySem.W.hasDictIn K C = true) (t : PySem.W.typeIn K (.ref C) = some (.type "type"))
    (s : PySem.W.subIn K (.ref C) (.ref C) = some true) : ExCatch K mg S ci x := ⟨C, e, g, PySem.W.exm_ref b h t s⟩
section
variable {X : Cx} {S : Sig} {att : Nat → Str} {k : Nat} {Wd : WX} {G : Env0A} {W : Nat} {fix : List Nat}
theorem Ctx.tr {W1 : WX} (c : Ctx X S att k Wd) (pn : List (Addr × Obj)) (xe : Value → Shared → Prop) (tk : Takes (X.tr pn xe) W1) : Ctx (X.tr pn xe) S att k W1 := ⟨c.hK, c.hC, c.room, c.nd, c.calm, tk⟩
theorem try_body {W1 : WX} {me : ME} {e : Expr} {p : Pos} (hn : slotOf me = none) (he : PE X e (tEw S W1 G W false me)) : PSs X [.Return (some e) p] (tSs S W1 G W fix (.cons (.ret me) .nil)) := ss_cons (s_ret hn he) ss_nil
theorem s_tryOnly {ci : Nat} {x : Str} {e : Expr} {me : ME} {mh : MSs} {b₀ : Stmt} {suite : List Stmt} {np pos pos' p : Pos} (h : ExCatch X.K X.mg S ci x) (c : Ctx X S att k Wd) (hs : X.stack = X.env :: X.outer) (hf : X.env.frame = some X.env.locals) (hg : Gl X x) (hdb : (x == ("__debug__" : Str)) = false)
    (hn : slotOf me = none) (hb : ∀ (W1 : WX) (pn : List (Addr × Obj)) (xe : Value → Shared → Prop), Ctx (X.tr pn xe) S att k W1 → PassesOwn (model X.prog X.w) X.A X.env xe → PE (X.tr pn xe) e (tEw S W1 G W false me))
    (hsu : ∀ (a : Addr) (pn : List (Addr × Obj)), PSs (X.suite a pn) (b₀ :: suite) (tSs S Wd G W fix mh)) :
    PS X (.Try [.Return (some e) p] [.ExceptHandler (some (.Name x np)) none (b₀ :: suite) pos'] [] [] pos) (tSt S Wd G W fix (.tryRet me ci mh)) := by
  obtain ⟨C, eC, gC, xC⟩ := h.ex
  refine (ps_try_only (c := .ref C) (tb := fun W1 => tSs S W1 G W fix (.cons (.ret me) .nil)) (ts := fun _ _ _ => tSs S Wd G W fix mh) hs hf ⟨hg, hdb, .inl gC⟩ c.tk (fun W1 pn xe tk po => try_body hn (hb W1 pn xe (c.tr pn xe tk) po)) (fun a oe cls d pn _ _ => hsu a _)).weak fun E σ H h => ?_
  obtain ⟨F, P, a, sr, o⟩ := h
  refine ⟨F, P, a, sr, ?_⟩
  simp only [ex] at o
  simp only [exs, ex, hn]
  cases hev : ev G W false me a with
  | ok d s1 => rw [hev] at o; exact o
  | bad => rw [hev] at o; exact o.elim
  | rz c' s1 =>
    rw [hev] at o
    simp only at o
    by_cases hc : ci = c'
    · subst hc
      rw [if_pos rfl] at o
      intro σ' F' H' Pa sr' ex' fx
      refine ⟨true, by rw [eC]; exact xC, fun _ a ha => ⟨F', Pa, s1, sr', OutS.at ex' fx o⟩, fun z => nomatch z⟩
    · rw [if_neg hc] at o; exact o.elim
end
end Ab
/-! Ab42: an instance == a whole number: False -/
namespace HN
open PySem PySem.Spec PyProof.Rows PySem.SeqAt
section
variable {M : Model} {prog : Program} {w : World} {A : Around} {E : Value → Shared → Prop} {s : Shared} {K : PySem.W.Frag} {x C : Addr} {ox : Obj} {od : Option Obj} {i : Int} {t : Tok}
theorem sub_int : PySem.W.subIn K (.type "int") (.ref C) = some false := by
  have e : fastBuiltinMro "int" = some [.type "int", .type "object"] := by decide +kernel
  show (fastBuiltinMro "int").map (·.contains (.ref C)) = some false
  rw [e]
  first
    | rfl
    | simp
end
end HN
namespace Ab
open PySem L2
variable {S : Sig} {Z : L2.St → Nat → Hp → Prop} {F F' H H' : Hp} {P : Fp} {σ : L2.St} {a a' : SA}
section
variable {X : Cx} {G : Env0A} {W : Nat}
end
end Ab
namespace Ab
open PySem L2
open Classical
variable {S : Sig} {Z : L2.St → Nat → Hp → Prop} {F F' H H' : Hp} {P : Fp} {σ : L2.St} {a a' : SA}
/-! Ab43: comprehensions over pairs -/
section
variable {F1 H1 : Hp} {P1 : Fp} {p : Addr} {w1 w2 : Nat} {σ0 : L2.St} {sa : SA} {ys : List D} {acc : List V} {Pc : Fp} {kq : Bool}
end
section
variable {X : Cx} {G : Env0A} {W : Nat}
end
section
variable {X : Cx} {att : Nat → Str} {k : Nat} {Wd : WX} {G : Env0A} {W : Nat}
end
end Ab
namespace Ab
open PySem L2
open Classical
variable {S : Sig} {Z : L2.St → Nat → Hp → Prop} {F F' H H' : Hp} {P : Fp} {σ : L2.St} {a a' : SA}
/-! Ab44: a comprehension that only reads: it walks a list that nobody need share; sorted(d) of a dict of ints -/
section
variable {X : Cx} {G : Env0A} {W : Nat} {att : Nat → Str} {Wd : WX} {fix : List Nat}
end
section
variable {X : Cx} {S : Sig} {att : Nat → Str} {k : Nat} {Wd : WX} {G : Env0A} {W : Nat} {Z : L2.St → Nat → Hp → Prop}
end
end Ab
namespace Ab
open PySem L2
open Classical
variable {S : Sig} {Wd : WX} {Z : L2.St → Nat → Hp → Prop} {fix : List Nat} {F F' H H' : Hp} {P : Fp} {σ : L2.St} {a a' : SA}
/-! Ab45: a name for a list within a list: row = rows[k], and the rest of the block -/
section
variable {X : Cx} {G : Env0A} {W : Nat} {att : Nat → Str}
end
end Ab
namespace Ab
open PySem L2
open Classical
variable {S : Sig} {Wd : WX} {Z : L2.St → Nat → Hp → Prop} {fix : List Nat} {F F' H H' : Hp} {P : Fp} {σ : L2.St} {a a' : SA}
/-! Ab46: a walk over a list in a slot that is hidden meanwhile -/
section
variable {X : Cx} {G : Env0A} {W : Nat} {att : Nat → Str}
end
end Ab
namespace Ab
open PySem L2
/-! Ab47: gcd -/
section
variable {X : Cx} {S : Sig} {att : Nat → Str} {k : Nat} {Wd : WX} {G : Env0A} {W : Nat} {Z : L2.St → Nat → Hp → Prop}
end
end Ab
namespace Ab
open PySem L2
open Classical
variable {S : Sig} {Wd : WX} {Z : L2.St → Nat → Hp → Prop} {fix : List Nat} {F F' H H' : Hp} {P : Fp} {σ : L2.St} {a a' : SA}
/-! Ab48: walks over the keys of a dict: locked meanwhile -/
def nDic : HO → Bool
  | .dK _ => false
  | .dT _ => false
  | .frz _ (.dK _) => false
  | .frz _ (.dT _) => false
  | .ext _ => false
  | .frz _ (.ext _) => false
  | _ => true
mutual
theorem Rep.keepN (hF : ∀ x o, F x = some o → nDic o = true → F' x = some o) : ∀ (d : D) {v : V} {P : Fp}, noFd d = true → Rep S F H d v P → (∀ x, P x → H' x = H x) → Rep S F' H' d v P
  | .non, v, P, nf, h, k => h
  | .bl b, v, P, nf, h, k => h
  | .int i, v, P, nf, h, k => h
  | .str s, v, P, nf, h, k => h
  | .tup ds, v, P, nf, h, k => by
    have nf : noFds ds = true := nf
    simp only [Rep] at h ⊢
    obtain ⟨e, a, vs, ev, ea, h⟩ := h
    exact ⟨e, a, vs, ev, hF _ _ ea rfl, Reps.keepN hF ds nf h fun x hx => hx.elim⟩
  | .lst m ds, v, P, nf, h, k => by
    have nf : noFds ds = true := nf
    simp only [Rep] at h ⊢
    obtain ⟨a, vs, ev, h⟩ := h
    refine ⟨a, vs, ev, ?_⟩
    split at h
    · rename_i hm
      obtain ⟨ea, pa, P', np, eP, h⟩ := h
      rw [if_pos hm]
      refine ⟨(k a pa).trans ea, pa, P', np, eP, Reps.keepN hF ds nf h fun x hx => k x ?_⟩
      rw [eP]; exact .inr hx
    · rename_i hm
      rw [if_neg hm]
      exact ⟨h.1, hF _ _ h.2.1 rfl, Reps.keepN hF ds nf h.2.2 fun x hx => hx.elim⟩
  | .ins m c ds, v, P, nf, h, k => by
    have nf : noFds ds = true := nf
    simp only [Rep] at h ⊢
    obtain ⟨a, cl, dx, vs, ev, hc, hl, h⟩ := h
    refine ⟨a, cl, dx, vs, ev, hc, hl, ?_⟩
    split at h
    · rename_i hm
      obtain ⟨ea, pa, P', np, eP, h⟩ := h
      rw [if_pos hm]
      refine ⟨(k a pa).trans ea, pa, P', np, eP, Reps.keepN hF ds nf h fun x hx => k x ?_⟩
      rw [eP]; exact .inr hx
    · rename_i hm
      rw [if_neg hm]
      exact ⟨h.1, hF _ _ h.2.1 rfl, Reps.keepN hF ds nf h.2.2 fun x hx => hx.elim⟩
  | .dic m t ks ds, v, P, nf, h, k => by
    simp only [noFd, Bool.and_eq_true] at nf
    simp only [Rep] at h ⊢
    obtain ⟨a, vs, bs, ev, hk, hl, hb, h⟩ := h
    refine ⟨a, vs, bs, ev, hk, hl, fun e => Reps.keepN hF ks (nOks_noFd ks (kOks_n e hk)) (hb e) fun x hx => hx.elim, ?_⟩
    rw [if_pos nf.1] at h ⊢
    obtain ⟨ea, pa, P', np, eP, h⟩ := h
    refine ⟨(k a pa).trans ea, pa, P', np, eP, Reps.keepN hF ds nf.2 h fun x hx => k x ?_⟩
    rw [eP]; exact .inr hx
  | .scr is, v, P, nf, h, k => by
    simp only [Rep] at h ⊢
    obtain ⟨e, a, ev, h⟩ := h
    exact ⟨e, a, ev, h.elim (fun r => .inl (r.elim (fun e => .inl (hF _ _ e rfl)) fun ⟨o, e⟩ => .inr ⟨o, hF _ _ e rfl⟩)) .inr⟩
theorem Reps.keepN (hF : ∀ x o, F x = some o → nDic o = true → F' x = some o) : ∀ (ds : List D) {vs : List V} {P : Fp}, noFds ds = true → Reps S F H ds vs P → (∀ x, P x → H' x = H x) → Reps S F' H' ds vs P
  | [], vs, P, nf, h, k => h
  | d :: ds, vs, P, nf, h, k => by
    simp only [noFds, Bool.and_eq_true] at nf
    simp only [Reps] at h ⊢
    obtain ⟨v, r, P1, P2, e1, e2, di, h1, h2⟩ := h
    exact ⟨v, r, P1, P2, e1, e2, di, Rep.keepN hF d nf.1 h1 fun x hx => k x (by rw [e2]; exact .inl hx), Reps.keepN hF ds nf.2 h2 fun x hx => k x (by rw [e2]; exact .inr hx)⟩
end
theorem RepS.keepN (hF : ∀ x o, F x = some o → nDic o = true → F' x = some o) : ∀ {a : SA} {σ : St} {P : Fp}, noFdS a = true → RepS S F H a σ P → (∀ x, P x → H' x = H x) → RepS S F' H' a σ P
  | [], σ, P, nf, h, k => h
  | none :: r, σ, P, nf, h, k => by
    have nf : noFdS r = true := by simpa [noFdS] using nf
    obtain ⟨o, σ', e, h⟩ := h
    exact ⟨o, σ', e, RepS.keepN hF nf h k⟩
  | some d :: r, σ, P, nf, h, k => by
    have nf : noFd d = true ∧ noFdS r = true := by simpa [noFdS] using nf
    obtain ⟨v, σ', P1, P2, e, e2, di, h1, h⟩ := h
    exact ⟨v, σ', P1, P2, e, e2, di, Rep.keepN hF d nf.1 h1 fun x hx => k x (by rw [e2]; exact .inl hx), RepS.keepN hF nf.2 h fun x hx => k x (by rw [e2]; exact .inr hx)⟩

/-- a tuple that lies there is known for good -/
noncomputable def addTup (F : Hp) (q : Addr) (vs : List V) : Hp := upd F q (.tup vs)
theorem SR.addT (sr : SR S F H a σ P) {q : Addr} {vs : List V} (hq : H q = some (.tup vs)) : SR S (addTup F q vs) H a σ P ∧ Same F (addTup F q vs) ∧ Ext F (addTup F q vs) H H P P ∧ addTup F q vs q = some (.tup vs) := by
  have sF : Same F (addTup F q vs) := fun x o e => by
    by_cases h : x = q
    · subst h
      have := sr.sub x o e
      rw [hq] at this; cases this
      exact upd_same
    · rw [Ab.addTup, upd_ne h]; exact e
  have out : ∀ x o, addTup F q vs x = some o → x ≠ q → F x = some o := fun x o e h => by rw [Ab.addTup, upd_ne h] at e; exact e
  refine ⟨⟨sr.rep.keep sF fun _ _ => rfl, fun x hx => ?_, fun x o e => ?_⟩, sF, ⟨sF, fun x o h _ => h, fun x h => .inl h, fun x o e => ?_⟩, upd_same⟩
  · have : x ≠ q := fun z => sr.rep.notup x hx vs (by rw [z]; exact hq)
    rw [Ab.addTup, upd_ne this]; exact sr.fr x hx
  · by_cases h : x = q
    · subst h
      rw [Ab.addTup, upd_same] at e; cases e; exact hq
    · exact sr.sub x o (out x o e h)
  · by_cases h : x = q
    · exact .inr (.inr (.inr ⟨vs, by rw [h]; exact hq⟩))
    · exact .inl ⟨o, out x o e h⟩
/-- what a walk over keys yields -/
def KeyAt (t : Nat) (bs : List V) (i : Nat) (k : D) (x : V) (H : Hp) : Prop := (kOk 0 k = true ∧ x = kV (kI k)) ∨ (kOk 1 k = true ∧ ∃ q, x = .ref q ∧ H q = some (.tup ((kT k).map kV))) ∨ (2 ≤ t ∧ bs[i]? = some x)
theorem KeyAt.rep {t : Nat} {bs : List V} {i : Nat} {k : D} {x : V} (h : KeyAt t bs i k x H) (hb : 2 ≤ t → ∀ b, bs[i]? = some b → Rep S F H k b Emp) (sr : SR S F H a σ P) : ∃ F', SR S F' H a σ P ∧ Same F F' ∧ Ext F F' H H P P ∧ Rep S F' H k x Emp := by
  rcases h with ⟨hk, rfl⟩ | ⟨hk, q, rfl, hq⟩ | ⟨hk, hx⟩
  · rcases kOk_of hk with ⟨_, i, rfl⟩ | ⟨h, _⟩ | ⟨h, _⟩
    · exact ⟨F, sr, fun _ _ z => z, .refl, rep_int.mpr ⟨rfl, rfl⟩⟩
    · cases h
    · cases h
  · rcases kOk_of hk with ⟨h, _⟩ | ⟨_, l, rfl⟩ | ⟨h, _⟩
    · cases h
    · obtain ⟨h1, h2, h3, h4⟩ := sr.addT hq
      refine ⟨_, h1, h2, h3, ?_⟩
      simp only [Rep]
      have e : (kT (.tup (l.map D.int))).map kV = l.map V.int := by simp only [kT, List.map_map]; rfl
      rw [e] at h4
      exact ⟨trivial, q, l.map V.int, rfl, by rw [e]; exact h4, Reps.ofInts l⟩
    · cases h
  · exact ⟨F, sr, fun _ _ z => z, .refl, hb hk x hx⟩
section -- WALK
variable {X : Cx} {G : Env0A} {W : Nat} {att : Nat → Str}
end
end Ab
namespace PySem.W
open PySem PySem.Calls PyProof.Rows
section
variable {prog : Program} {w : World} {A : Around} {E : Value → Shared → Prop} {s : Shared}
/-! Ab49: sorted(a tuple) -/
end
end PySem.W
namespace Ab
open PySem L2
open Classical
section
variable {S : Sig} {Z : L2.St → Nat → Hp → Prop} {F H : Hp} {P : Fp} {σ : L2.St} {X : Cx}
variable {att : Nat → Str} {k : Nat} {Wd : WX} {G : Env0A} {W : Nat}
end
end Ab
namespace Ab
open PySem L2
/-! Ab50: name = [.. for y in d ..], d a dict -/
variable {S : Sig} {Wd : WX} {Z : L2.St → Nat → Hp → Prop} {fix : List Nat} {F F' H H' : Hp} {P : Fp} {σ : L2.St} {a a' : SA}
section
variable {X : Cx} {G : Env0A} {W : Nat} {att : Nat → Str}
variable {k : Nat}
end
end Ab
namespace Ab
open PySem L2
/-! Ab51: nested tuples of ints: a < b -/
variable {S : Sig} {Wd : WX} {Z : L2.St → Nat → Hp → Prop} {fix : List Nat} {F F' H H' : Hp} {P : Fp} {σ : L2.St} {a a' : SA}
section
variable {X : Cx} {G : Env0A} {W : Nat}
end
end Ab
namespace Ab
open PySem L2
/-! Ab52: {x: True for x in l}, l a list of ints -/
variable {S : Sig} {Wd : WX} {Z : L2.St → Nat → Hp → Prop} {fix : List Nat} {F F' H H' : Hp} {P : Fp} {σ : L2.St} {a a' : SA}
section
variable {X : Cx} {G : Env0A} {W : Nat}
variable {att : Nat → Str} {k : Nat} {Wd : WX}
end
end Ab
namespace Ab
open PySem L2
open Classical
/-! Ab53: closures in the machine: the cells that a function captured are told apart while it runs -/
section
variable {F F' H H' H1 H2 : Hp} {cl : List (Str × Addr)} {fr : List Str} {ws : List V} {a : Addr}
theorem dropC_in (h : ∃ y, cl.lookup y = some a) : dropC F cl a = none := by unfold dropC; rw [if_pos h]
theorem dropC_out (h : ¬ ∃ y, cl.lookup y = some a) : dropC F cl a = F a := by unfold dropC; rw [if_neg h]
theorem dropC_some {o : HO} (h : dropC F cl a = some o) : F a = some o ∧ ¬ ∃ y, cl.lookup y = some a := by
  unfold dropC at h
  split at h
  · cases h
  · rename_i n; exact ⟨h, n⟩
noncomputable def backC (H1 : Hp) (cl : List (Str × Addr)) (H2 : Hp) : Hp := fun a => if ∃ y, cl.lookup y = some a then H1 a else H2 a
theorem backC_in (h : ∃ y, cl.lookup y = some a) : backC H1 cl H2 a = H1 a := by unfold backC; rw [if_pos h]
theorem backC_out (h : ¬ ∃ y, cl.lookup y = some a) : backC H1 cl H2 a = H2 a := by unfold backC; rw [if_neg h]
/-- what stands at a cell is no other thing -/
theorem CelF.not (c : CelF F cl fr ws) {o : HO} (e : F a = some o) (h : ∀ ob, o ≠ .frz ob (.own a)) : ¬ ∃ y, cl.lookup y = some a := fun ⟨y, hy⟩ => by
  obtain ⟨ob, v, e2, _⟩ := c.all y a hy
  rw [e] at e2
  exact h ob (Option.some.inj e2)
theorem CelF.keeps (c : CelF F cl fr ws) {o : HO} (e : F a = some o) (h : ∀ ob, o ≠ .frz ob (.own a)) : dropC F cl a = some o := by rw [dropC_out (c.not e h)]; exact e
variable {P : Program} {w : World} {h h' : Heap}
theorem hok_drop (c : CelF H cl fr ws) (ok : HOk P w H h) : HOk P w (dropC H cl) h := fun b o e =>
  (ok b o (dropC_some e).1).stay (fun _ _ _ q => q) (fun x q => c.keeps q fun _ z => by cases z) fun x xs q => c.keeps q fun _ z => by cases z
theorem cells_at (c : CelF H cl fr ws) (ok : HOk P w H h) : NdefX.CellsAt cl fr (ws.map some) h (dropC H cl) := by
  refine ⟨by rw [List.length_map]; exact c.len, fun y a e => ?_, c.inj, fun i y e => ?_⟩
  · obtain ⟨o, v, e1, e2⟩ := c.all y a e
    exact ⟨dropC_in ⟨y, e⟩, v, o, (ok a _ e1).1, e2⟩
  · have hi := (List.getElem?_eq_some_iff.mp e).1
    rw [← c.len] at hi
    obtain ⟨a, o, u, h1, h2, h3, h4⟩ := c.has i y ws[i] e (List.getElem?_eq_getElem hi)
    refine ⟨a, h1, fun v ev => ?_⟩
    rw [List.getElem?_map, List.getElem?_eq_getElem hi] at ev
    have : ws[i] = v := by simpa using ev
    subst this
    exact ⟨u, h4, o, (ok a _ h2).1, h3⟩
theorem env0_drop {K : PySem.W.Frag} {mg : Str → Option Value} {base : Heap} {A : Around} {outer : List Env} {s : Shared} (c : CelF H cl fr ws) (e : Env0 P w K mg base A outer s H) : Env0 P w K mg base A outer s (dropC H cl) := by
  refine ⟨e.frames, e.mod, fun b o z => ⟨(e.bs b o z).1, ?_⟩, e.bsz, e.funs, fun b hb => ?_, hok_drop c e.hok, e.bare⟩
  · unfold dropC; split
    · rfl
    · exact (e.bs b o z).2
  · unfold dropC; split
    · rfl
    · exact e.frf b hb
/-- behind a closure's call: the cells are told again -/
theorem ce_back {outer : List Env} {s s' : Shared} {Q : VK} {u : Value} (c : CelF H cl fr ws) (ok : HOk P w H s.heap) (frf : ∀ b ∈ frs outer, H b = none) (h : CE outer P w (dropC H cl) s (fun v H2 => (∀ b, (∃ y, cl.lookup y = some b) → H2 b = none) → Q v (backC H cl H2)) u s') : CE outer P w H s Q u s' := by
  obtain ⟨v, H2, os, bare, un, ok2, r, q⟩ := h
  have hin : ∀ b, (∃ y, cl.lookup y = some b) → ∃ o v, H b = some (.frz o (.own b)) ∧ o.data = .cell v := fun b ⟨y, hy⟩ => c.all y b hy
  have n2 : ∀ b, (∃ y, cl.lookup y = some b) → H2 b = none := fun b hb => by
    obtain ⟨o, v, e, _⟩ := hin b hb
    exact un.free b o (ok b _ e).1 (dropC_in hb) (by simp)
  have le : Same H2 (backC H cl H2) := fun b o e => by
    by_cases hb : ∃ y, cl.lookup y = some b
    · rw [n2 b hb] at e; cases e
    · rw [backC_out hb]; exact e
  refine ⟨v, backC H cl H2, os, bare, ⟨fun b o e n nf nx => ?_, fun b o e n nf nx => ?_, fun b o e n nx => ?_, un.there, fun b xs e => ?_, fun b o u e => ?_, fun b ps e => ?_⟩, fun b o e => ?_, r, q n2⟩
  · have hb : ¬ ∃ y, cl.lookup y = some b := fun z => by obtain ⟨o, v, e, _⟩ := hin b z; rw [n] at e; cases e
    exact un.keep b o e (by rw [dropC_out hb]; exact n) nf nx
  · have hb : ¬ ∃ y, cl.lookup y = some b := fun z => by obtain ⟨o, v, e, _⟩ := hin b z; rw [n] at e; cases e
    exact un.slot b o e (by rw [dropC_out hb]; exact n) nf nx
  · have hb : ¬ ∃ y, cl.lookup y = some b := fun z => by obtain ⟨o, v, e, _⟩ := hin b z; rw [n] at e; cases e
    rw [backC_out hb]
    exact un.free b o e (by rw [dropC_out hb]; exact n) nx
  · have hb := c.not e fun _ z => by cases z
    rw [backC_out hb]
    exact un.tups b xs (by rw [dropC_out hb]; exact e)
  · by_cases hb : ∃ y, cl.lookup y = some b
    · rw [backC_in hb]; exact e
    · rw [backC_out hb]; exact un.frzs b o u (by rw [dropC_out hb]; exact e)
  · have hb := c.not e fun _ z => by cases z
    rw [backC_out hb]
    exact un.tbls b ps (by rw [dropC_out hb]; exact e)
  · by_cases hb : ∃ y, cl.lookup y = some b
    · rw [backC_in hb] at e
      obtain ⟨o1, v1, e1, _⟩ := hin b hb
      rw [e] at e1
      cases e1
      have nf : b ∉ frs outer := fun z => by rw [frf b z] at e; cases e
      have hk := un.keep b o1 (ok b _ e).1 (dropC_in hb) nf (by simp)
      exact ⟨hk, o1, hk⟩
    · rw [backC_out hb] at e
      exact (ok2 b o e).stay (fun _ _ _ q => q) (fun x q => le _ _ q) fun x xs q => le _ _ q
end
section
variable {X : Cx}
/-- a closure's promise -/
def CloOk (X : Cx) (k : Nat) (f : Addr) (F0 : NdefX.NF) (ps fr : List Str) (sp : List (Option V) → Sp) : Prop := NdefX.NOk X.prog X.w X.K X.mg X.base (L2.CX X.prog X.w) k f F0 ps fr sp
theorem run_clo {pins : List (Addr × Obj)} {σ : L2.St} {H : Hp} {s : Shared} {Q : VK} {f : Addr} {F0 : NdefX.NF} {ps fr : List Str} {ws vs : List V} {us : List Value} {sp : List (Option V) → Sp} {k j : Nat} (Fn : CloOk X k f F0 ps fr sp) (hr : Room j X.A) (hk : k ≤ j) (I : Inv X pins σ H s)
    (hf : FnF H f F0) (C : CelF H F0.cl fr ws) (r : Vals vs us) (q : sp (ws.map some) vs (dropC H F0.cl) (fun v H2 => (∀ b, (∃ y, F0.cl.lookup y = some b) → H2 b = none) → Q v (backC H F0.cl H2)) (fun _ _ _ => False)) :
    wpAny (model X.prog X.w) X.A (call (.ref f) us) (EP X pins σ Q) X.xe s := by
  have hf2 : dropC H F0.cl f = some (NdefX.FnO f F0) := C.keeps hf.1 fun _ z => by unfold NdefX.FnO at z; cases z
  have hc2 : dropC H F0.cl F0.c = some (LamX.CodeO F0.c F0.qual) := C.keeps hf.2 fun _ z => by unfold LamX.CodeO at z; cases z
  refine wpAny_call (codeAny_mono (Fn.run X.A X.stack s (dropC H F0.cl) us vs _ _ _ (hr.mono hk) (env0_drop C I.env0) hf2 hc2 (cells_at C I.hok) r q) fun r s' hq => ?_)
  cases r with
  | error e =>
    obtain ⟨_, _, _, _, _, _, _, _, _, _, _, _, z⟩ := hq
    exact z.elim
  | ok fl =>
    cases fl with
    | ret u => exact I.after (ce_back C I.hok I.env0.frf hq)
    | next => exact False.elim hq
    | brk => exact False.elim hq
    | cont => exact False.elim hq
/-- f(..), f a name that holds a closure -/
def tCallC (X : Cx) (i : Nat) (t : TA) : TE := fun σ H Q => ∃ f F0, σ[i]? = some (some (.ref f)) ∧ FnF H f F0 ∧
  t σ H fun vs H1 => FnF H1 f F0 ∧ ∃ ps fr sp ws k j, CloOk X k f F0 ps fr sp ∧ Room j X.A ∧ k ≤ j ∧ CelF H1 F0.cl fr ws ∧ sp (ws.map some) vs (dropC H1 F0.cl) (fun v H2 => (∀ b, (∃ y, F0.cl.lookup y = some b) → H2 b = none) → Q v (backC H1 F0.cl H2)) (fun _ _ _ => False)
theorem pe_callC {i : Nat} {x : Str} {t : TA} {e : Expr} {es : List Expr} {p pos : Pos} (hN : X.N[i]? = some x) (hv : Vis X.env.scope x) (ha : PA X (e :: es) t)
    (hd : (x == ("__debug__" : Str)) = false) (hcd : (x == ("__classdict__" : Str)) = false)
    (he : starEach (e :: es) X.env = (false, eval e X.env) :: starEach es X.env) (hpl : (backTo pos (starEach es X.env)).any (·.1) = false) :
    PE X (.Call (.Name x p) (e :: es) [] pos) (tCallC X i t) := by
  refine ⟨fun pins s σ H Q I h => ?_⟩
  obtain ⟨f, F0, hs, hf, ht⟩ := h
  refine wpAny_Call_Name_kw (thn ((pe_var (pos := p) hN hv hd hcd).run pins s σ H (fun v H1 => v = .ref f ∧ H1 = H) I ⟨.ref f, hs, rfl, rfl⟩) fun u s1 ⟨v, H1, I1, r1, q1⟩ => ?_)
  obtain ⟨ev, eH⟩ := q1
  subst ev
  rw [eH] at I1
  obtain rfl : u = Value.ref f := r1
  refine PySem.W.callWith_F (first := []) (NdefX.fnAt_of I1 hf.1) (thn (ha.run pos pins s1 σ H _ I1 ht) fun us s2 ⟨vs, H2, I2, r, h1, q⟩ => ⟨NdefX.fnAt_of I2 h1.1, ?_⟩) he hpl
  obtain ⟨ps, fr, sp, ws, k, j, Fn, hr, hk, C, q⟩ := q
  show wpAny _ _ (call (.ref f) us) _ _ _
  exact run_clo Fn hr hk I2 h1 C r q
end
end Ab
namespace Ab
open PySem L2
open Classical
/-! Ab54: a closure in a slot is called -/
section
variable {S : Sig} {F H : Hp} {cl : List (Str × Addr)}
theorem Rep.atO (hs : Same F H) {a : Addr} {o : HO} (hc : ∀ y a, cl.lookup y = some a → ∃ ob, F a = some (.frz ob (.own a))) (e : H a = some o) (h : ∀ ob, o ≠ .frz ob (.own a)) : dropC H cl a = some o := by
  rw [dropC_out]; exact e
  rintro ⟨y, hy⟩
  obtain ⟨ob, e2⟩ := hc y a hy
  rw [hs _ _ e2] at e
  exact h ob (Option.some.inj e).symm
theorem Rep.atF {a : Addr} {o : HO} (hc : ∀ y a, cl.lookup y = some a → ∃ ob, F a = some (.frz ob (.own a))) (e : F a = some o) (h : ∀ ob, o ≠ .frz ob (.own a)) : dropC F cl a = some o := by
  rw [dropC_out]; exact e
  rintro ⟨y, hy⟩
  obtain ⟨ob, e2⟩ := hc y a hy
  rw [e2] at e
  exact h ob (Option.some.inj e).symm
mutual
theorem nOk_noC : ∀ d : D, nOk d = true → noClo d = true
  | .int _, _ => rfl
  | .tup ds, h => by simp only [noClo]; exact nOks_noC ds (by simpa only [nOk] using h)
  | .non, h => by simp [nOk] at h
  | .bl _, h => by simp [nOk] at h
  | .str _, h => by simp [nOk] at h
  | .lst _ _, h => by simp [nOk] at h
  | .ins _ _ _, h => by simp [nOk] at h
  | .scr _, h => by simp [nOk] at h
  | .dic _ _ _ _, h => by simp [nOk] at h
  | .clo _ _, h => by simp [nOk] at h
  | .fn _ _, h => by simp [nOk] at h
  | .tbs, h => by simp [nOk] at h
theorem nOks_noC : ∀ ds : List D, nOks ds = true → noClos ds = true
  | [], _ => rfl
  | d :: ds, h => by
    simp only [nOks, Bool.and_eq_true] at h
    simp only [noClos, Bool.and_eq_true]
    exact ⟨nOk_noC d h.1, nOks_noC ds h.2⟩
end
mutual
/-- what tells of no closure does not need the cells -/
theorem Rep.noC (hs : Same F H) (hc : ∀ y a, cl.lookup y = some a → ∃ ob, F a = some (.frz ob (.own a))) : ∀ (d : D) {v : V} {P : Fp}, noClo d = true → Rep S F H d v P → Rep S (dropC F cl) (dropC H cl) d v P
  | .non, v, P, n, h => h
  | .bl b, v, P, n, h => h
  | .int i, v, P, n, h => h
  | .str s, v, P, n, h => h
  | .tup ds, v, P, n, h => by
    simp only [Rep] at h ⊢
    obtain ⟨e, a, vs, ev, ea, h⟩ := h
    exact ⟨e, a, vs, ev, Rep.atF hc ea (fun _ z => by cases z), Reps.noC hs hc ds (by simpa only [noClo] using n) h⟩
  | .lst m ds, v, P, n, h => by
    simp only [noClo] at n
    simp only [Rep] at h ⊢
    obtain ⟨a, vs, ev, h⟩ := h
    refine ⟨a, vs, ev, ?_⟩
    split at h
    · rename_i hm
      obtain ⟨ea, pa, P', np, eP, h⟩ := h
      rw [if_pos hm]
      exact ⟨Rep.atO hs hc ea (fun _ z => by cases z), pa, P', np, eP, Reps.noC hs hc ds n h⟩
    · rename_i hm
      rw [if_neg hm]
      exact ⟨h.1, Rep.atF hc h.2.1 (fun _ z => by cases z), Reps.noC hs hc ds n h.2.2⟩
  | .ins m c ds, v, P, n, h => by
    simp only [noClo] at n
    simp only [Rep] at h ⊢
    obtain ⟨a, cl', dx, vs, ev, hcl, hl, h⟩ := h
    refine ⟨a, cl', dx, vs, ev, hcl, hl, ?_⟩
    split at h
    · rename_i hm
      obtain ⟨ea, pa, P', np, eP, h⟩ := h
      rw [if_pos hm]
      exact ⟨Rep.atO hs hc ea (fun _ z => by cases z), pa, P', np, eP, Reps.noC hs hc ds n h⟩
    · rename_i hm
      rw [if_neg hm]
      exact ⟨h.1, Rep.atF hc h.2.1 (fun _ z => by cases z), Reps.noC hs hc ds n h.2.2⟩
  | .dic m t ks ds, v, P, n, h => by
    simp only [noClo] at n
    simp only [Rep] at h ⊢
    obtain ⟨a, vs, bs, ev, hk, hl, hb, h⟩ := h
    refine ⟨a, vs, bs, ev, hk, hl, fun e => Reps.noC hs hc ks (nOks_noC ks (kOks_n e hk)) (hb e), ?_⟩
    have nd : ∀ ob, dO a t bs ks vs ≠ .frz ob (.own a) := fun ob => dO_cases (p := fun o => o ≠ HO.frz ob (.own a)) (fun _ z => by cases z) (fun _ z => by cases z) (fun _ z => by cases z)
    have nd2 : dO a t bs ks vs ≠ .own a := dO_cases (p := fun o => o ≠ HO.own a) (fun _ z => by cases z) (fun _ z => by cases z) (fun _ z => by cases z)
    split at h
    · rename_i hm
      obtain ⟨ea, pa, P', np, eP, h⟩ := h
      rw [if_pos hm]
      exact ⟨Rep.atO hs hc ea nd, pa, P', np, eP, Reps.noC hs hc ds n h⟩
    · rename_i hm
      rw [if_neg hm]
      refine ⟨h.1, ?_, Reps.noC hs hc ds n h.2.2⟩
      rcases h.2.1 with e | ⟨o, e⟩
      · exact .inl (Rep.atF hc e nd)
      · exact .inr ⟨o, Rep.atF hc e fun ob z => nd2 (by injection z)⟩
  | .scr is, v, P, n, h => by simp [noClo] at n
  | .clo k cap, v, P, n, h => by simp [noClo] at n
  | .fn k js, v, P, n, h => by
    simp only [Rep] at h ⊢
    obtain ⟨e, f, nf, ev, ef, hn, hcl⟩ := h
    exact ⟨e, f, nf, ev, ⟨Rep.atF hc ef.1 (fun _ z => by unfold NdefX.FnO at z; cases z), Rep.atF hc ef.2 (fun _ z => by unfold LamX.CodeO at z; cases z)⟩, hn, hcl⟩
  | .tbs, v, P, n, h => by
    simp only [Rep] at h ⊢
    obtain ⟨ev, eP, ht⟩ := h
    refine ⟨ev, eP, fun p hp => ?_⟩
    obtain ⟨ps, e1, e2, e3⟩ := ht p hp
    exact ⟨ps, Rep.atO hs hc e1 (fun _ z => by cases z), e2, fun pos cv q => by
      obtain ⟨c, q1, q2⟩ := e3 pos cv q
      exact ⟨c, q1, Rep.atF hc q2 fun _ z => by unfold LamX.CodeO at z; cases z⟩⟩
theorem Reps.noC (hs : Same F H) (hc : ∀ y a, cl.lookup y = some a → ∃ ob, F a = some (.frz ob (.own a))) : ∀ (ds : List D) {vs : List V} {P : Fp}, noClos ds = true → Reps S F H ds vs P → Reps S (dropC F cl) (dropC H cl) ds vs P
  | [], vs, P, n, h => h
  | d :: ds, vs, P, n, h => by
    simp only [noClos, Bool.and_eq_true] at n
    simp only [Reps] at h ⊢
    obtain ⟨v, r, P1, P2, e1, e2, di, h1, h2⟩ := h
    exact ⟨v, r, P1, P2, e1, e2, di, Rep.noC hs hc d n.1 h1, Reps.noC hs hc ds n.2 h2⟩
end
end
/-- what a closure promises: n captured things behind the arguments -/
def spN (S : Sig) (n : Nat) (g : Callee) : List (Option V) → Sp := fun ws vs H Q E => ∃ wv : List V, ws = wv.map some ∧ wv.length = n ∧ ∃ F ds cap, Reps S F H ds vs Emp ∧ Reps S F H cap wv Emp ∧ Same F H ∧ RzOk S F H Emp [] vs Q E (g (ds ++ cap))
/-- a function made within a def that is ready to be called -/
structure LibClo (P : Program) (w : World) (K : PySem.W.Frag) (mg : Str → Option Value) (base : Heap) (S : Sig) (n : Nat) (g : Callee) (k : Nat) : Prop where
  ex : ∀ F0, S.nf n F0 → ∀ f, ∃ ps, NdefX.NOk P w K mg base (L2.CX P w) k f F0 ps (S.fr n) (spN S (S.fr n).length g)
section
variable {S : Sig} {Z : L2.St → Nat → Hp → Prop} {F H : Hp} {P : Fp} {σ : L2.St} {a : SA}
theorem mvs_nil : ∀ {avs : List AV}, mvs avs = [] → mvD (mvs avs) a = some []
  | avs, h => by rw [h]; rfl
/-- arguments that are shared while a closure runs -/
theorem args_clo {avs : List AV} {vs : List V} {F1 H1 : Hp} {Pd Pa : Fp} {ds : List D} (ok : OkA S F H P σ avs a vs F1 H1 Pd Pa) (hm : mvs avs = []) (hb : bors avs = []) (hd : avDs a avs = some ds) : Reps S (take F1 H1 Pd) H1 ds vs Emp := by
  have sv : slotVs σ (mvs avs) [] := by rw [hm]; rfl
  have rm : Reps S F1 H1 ([] : List D) ([] : List V) Emp := by simp only [Reps]; exact ⟨trivial, trivial⟩
  exact av_reps (take_same ok.fr) ok.rep hd (mvs_nil hm) sv rm (fun x hx => take_in hx) fun i hi => by rw [hb] at hi; cases hi
/-- behind a closure: its cells are told again -/
theorem ok_back {avs : List AV} {vs : List V} {F1 H1 F' H' : Hp} {Pd Pa Pd' : Fp} {d : D} {v : V} {cl : List (Str × Addr)} {fr : List Str} {ws : List V} (ok : OkA S F H P σ avs a vs F1 H1 Pd Pa) (C : CelF F1 cl fr ws)
    (rd : Rep S F' H' d v Pd') (frd : ∀ x, Pd' x → F' x = none) (sub : Same F' H') (ex : Ext (dropC (take F1 H1 Pd) cl) F' (dropC H1 cl) H' Emp Pd') (hn : ∀ b, (∃ y, cl.lookup y = some b) → H' b = none) :
    Ok S F H P σ ⟨true, false, none⟩ d a v (backC (take F1 H1 Pd) cl F') (backC H1 cl H') Pd' Pa := by
  have heldd : ∀ x, Pd' x → ∃ o, H' x = some o := rd.held d
  have ncell : ∀ x, Pd' x → ¬ ∃ y, cl.lookup y = some x := fun x hx z => by
    obtain ⟨o, e⟩ := heldd x hx
    rw [hn x z] at e; cases e
  have cellF : ∀ x, (∃ y, cl.lookup y = some x) → ∃ o, F1 x = some o := fun x ⟨y, hy⟩ => by
    obtain ⟨o, _, e, _⟩ := C.all y x hy; exact ⟨_, e⟩
  have nPa : ∀ x, Pa x → ¬ ∃ y, cl.lookup y = some x := fun x hx z => by
    obtain ⟨o, e⟩ := cellF x z
    rw [ok.sr.fr x hx] at e; cases e
  have nPd : ∀ x, Pd x → ¬ ∃ y, cl.lookup y = some x := fun x hx z => by
    obtain ⟨o, e⟩ := cellF x z
    rw [ok.fr x hx] at e; cases e
  have sF1 : Same F1 (take F1 H1 Pd) := take_same ok.fr
  have nF' : ∀ b, (∃ y, cl.lookup y = some b) → F' b = none := fun b hb => by
    cases q : F' b with
    | none => rfl
    | some o =>
      have := sub b o q
      rw [hn b hb] at this; cases this
  have le : Same F' (backC (take F1 H1 Pd) cl F') := fun x o e => by
    rw [backC_out]; exact e
    intro z; rw [nF' x z] at e; cases e
  have sF : Same F1 (backC (take F1 H1 Pd) cl F') := fun x o e => by
    by_cases hx : ∃ y, cl.lookup y = some x
    · rw [backC_in hx]; exact sF1 x o e
    · rw [backC_out hx]
      exact ex.same x o (by rw [dropC_out hx]; exact sF1 x o e)
  have kH : ∀ x o, H1 x = some o → backC H1 cl H' x = some o := fun x o e => by
    by_cases hx : ∃ y, cl.lookup y = some x
    · rw [backC_in hx]; exact e
    · rw [backC_out hx]
      exact ex.kept x o (by rw [dropC_out hx]; exact e) fun z => z
  have heldPa := ok.sr.rep.held
  have ntPa := ok.sr.rep.notup
  have fPa : ∀ x, Pa x → backC (take F1 H1 Pd) cl F' x = none := fun x hx => by
    rw [backC_out (nPa x hx)]
    cases q : F' x with
    | none => rfl
    | some o =>
      obtain ⟨ob, eb⟩ := heldPa x hx
      rcases ex.frz x o q with ⟨o', z⟩ | z | z | ⟨vs, z⟩
      · rw [dropC_out (nPa x hx), take_out fun y => ok.dis x y hx, ok.sr.fr x hx] at z; cases z
      · exact z.elim
      · rw [dropC_out (nPa x hx), eb] at z; cases z
      · rw [dropC_out (nPa x hx)] at z
        exact absurd z (ntPa x hx vs)
  have sub2 : Same (backC (take F1 H1 Pd) cl F') (backC H1 cl H') := fun x o e => by
    by_cases hx : ∃ y, cl.lookup y = some x
    · rw [backC_in hx] at e ⊢; exact take_sub ok.sr.sub x o e
    · rw [backC_out hx] at e ⊢; exact sub x o e
  have disN : ∀ x, Pd' x → H1 x = none := fun x hx => by
    rcases ex.own x hx with z | z
    · exact z.elim
    · rwa [dropC_out (ncell x hx)] at z
  have e1 : ∀ R : Fp, (∀ x, R x → Pd' x ∨ Pa x) → Ext F1 (backC (take F1 H1 Pd) cl F') H1 (backC H1 cl H') (Uni Pd Pa) R := fun R hR => by
    refine ⟨sF, fun x o e _ => kH x o e, fun x hx => ?_, fun x o e => ?_⟩
    · rcases hR x hx with h | h
      · exact .inr (disN x h)
      · exact .inl (.inr h)
    · by_cases hx : ∃ y, cl.lookup y = some x
      · exact .inl (cellF x hx)
      · rw [backC_out hx] at e
        rcases ex.frz x o e with ⟨o', z⟩ | z | z | ⟨vs, z⟩
        · rw [dropC_out hx] at z
          unfold take at z
          split at z
          · rename_i p; exact .inr (.inl (.inl p))
          · exact .inl ⟨o', z⟩
        · exact z.elim
        · rw [dropC_out hx] at z; exact .inr (.inr (.inl z))
        · rw [dropC_out hx] at z; exact .inr (.inr (.inr ⟨vs, z⟩))
  refine ⟨rd.keep le d fun x hx => backC_out (ncell x hx), ⟨ok.sr.rep.keep sF fun x hx => ?_, fPa, sub2⟩, ok.ext2.trans (e1 Pa fun x h => .inr h), fun _ => ok.ext2.trans (e1 (Uni Pd' Pa) fun x h => h), fun _ x h1 h2 => ?_, fun _ x hx => ?_, (fun z => nomatch z), fun i z => nomatch z⟩
  · obtain ⟨o, e⟩ := heldPa x hx
    rw [e, kH x o e]
  · obtain ⟨o, e⟩ := heldPa x h2
    rw [disN x h1] at e; cases e
  · rw [backC_out (ncell x hx)]; exact frd x hx
end
theorem isFn_eq {n : Nat} {js : List Nat} {o : Option D} (h : isFn n js o = true) : o = some (.fn n js) := by
  unfold isFn at h
  split at h
  · simp only [Bool.and_eq_true, decide_eq_true_eq] at h
    rw [h.1, h.2]
  · cases h
/-- captured slots -/
theorem rds_reps {S : Sig} {F H : Hp} {P : Fp} {σ : L2.St} {a : SA} (sr : SR S F H a σ P) : ∀ {js : List Nat} {cap : List D}, rds a js = some cap → stills cap = true → ∃ wv : List V, js.map (NdefX.slotAt σ) = wv.map some ∧ Reps S F H cap wv Emp
  | [], cap, h, hs => by
    simp only [rds, Option.some.injEq] at h
    subst h
    exact ⟨[], rfl, by simp only [Reps]; exact ⟨trivial, trivial⟩⟩
  | j :: js, cap, h, hs => by
    simp only [rds, Option.bind_eq_some_iff, Option.map_eq_some_iff] at h
    obtain ⟨d, h1, ds, h2, rfl⟩ := h
    simp only [stills, Bool.and_eq_true] at hs
    obtain ⟨wv, e, r⟩ := rds_reps sr h2 hs.2
    obtain ⟨v, P1, P2, e1, e2, di, r1, _, _⟩ := sr.rep.focus (rd_some h1)
    have e0 := r1.still d hs.1
    subst e0
    refine ⟨v :: wv, by simp only [List.map_cons, e, NdefX.slotAt_of e1], ?_⟩
    simp only [Reps]
    exact ⟨v, wv, Emp, Emp, rfl, (uni_emp _).symm, emp_dis, r1, r⟩
section
variable {X : Cx} {S : Sig} {att : Nat → Str} {k : Nat} {Wd : WX} {G : Env0A} {W : Nat}
theorem c_callc (c : Ctx X S att k Wd) {i j : Nat} {as : MAs} {x : Str} {p pos : Pos} {e : Expr} {es : List Expr} {v : Bool} (L : ∀ n g F0, G n = some g → S.nf n F0 → LibClo X.prog X.w X.K X.mg X.base S n g j) (ha : PA X (e :: es) (tAVs S (ZW S Wd) G W as)) (hj : j ≤ k := by decide)
    (hN : X.N[i]? = some x := by rfl) (hv : Vis X.env.scope x := by first | exact Or.inl rfl | exact Or.inr (Or.inl rfl) | exact Or.inr (Or.inr rfl)) (hd : (x == ("__debug__" : Str)) = false := by decide) (hcd : (x == ("__classdict__" : Str)) = false := by decide)
    (he : starEach (e :: es) X.env = (false, eval e X.env) :: starEach es X.env := by rfl) (hpl : (backTo pos (starEach es X.env)).any (·.1) = false := by rfl) : PE X (.Call (.Name x p) (e :: es) [] pos) (tE S (ZW S Wd) G W v (.callc i as)) := by
  refine (pe_callC hN hv ha hd hcd he hpl).weak fun σ H Q h => ?_
  obtain ⟨F, P, a, sr, o⟩ := h
  simp only [ev] at o
  split at o
  case h_2 => exact o.elim
  rename_i n cap ei
  split at o
  case h_2 => exact o.elim
  rename_i g eg
  obtain ⟨w, P1, P2, e1, e2, di, r, _, _⟩ := sr.rep.focus (rd_some ei)
  simp only [Rep] at r
  obtain ⟨_, f, F0, ws, rfl, ef, hn, hC, rc⟩ := r
  have Lb := L n g F0 eg hn
  obtain ⟨ps, Fn⟩ := Lb.ex F0 hn f
  refine ⟨f, F0, e1, ef.keep sr.sub, F, P, a, sr, o.bind.imp fun avs a1 ea o1 vs F1 H1 Pd Pa ok sm => ?_⟩
  have ef1 := ef.keep ok.ext.same
  have C1 := hC.same ok.ext.same
  refine ⟨ef1.keep ok.sr.sub, ps, S.fr n, _, ws, j, k, Fn, c.room, hj, C1.same ok.sr.sub, ?_⟩
  unfold calledC at o1
  cases hds : avDs a1 avs with
  | none => rw [hds] at o1; exact o1.elim
  | some ds =>
  rw [hds] at o1
  simp only at o1
  split at o1
  case isFalse => exact o1.elim
  rename_i hcond
  simp only [Bool.and_eq_true, List.isEmpty_iff] at hcond
  obtain ⟨⟨hm, hb⟩, hnc⟩ := hcond
  have sF1 : Same F1 (take F1 H1 Pd) := take_same ok.fr
  have CT := C1.same sF1
  have hcells : ∀ y a, F0.cl.lookup y = some a → ∃ ob, take F1 H1 Pd a = some (.frz ob (.own a)) := fun y a e => by
    obtain ⟨o, _, z, _⟩ := CT.all y a e; exact ⟨o, z⟩
  have rargs := Reps.noC (take_sub ok.sr.sub) hcells ds hnc (args_clo ok hm hb hds)
  have rcap : Reps S (dropC (take F1 H1 Pd) F0.cl) (dropC H1 F0.cl) cap ws Emp := Reps.keep (dropC_same (ok.ext.same.trans sF1) F0.cl) cap rc fun x hx => hx.elim
  refine ⟨ws, rfl, hC.len, dropC (take F1 H1 Pd) F0.cl, ds, cap, rargs, rcap, dropC_same (take_sub ok.sr.sub) F0.cl, ?_⟩
  cases eg2 : g (ds ++ cap) with
  | bad => rw [eg2] at o1; exact o1.elim
  | rz cc ms => rw [eg2] at o1; exact o1.elim
  | ok d ms =>
    rw [eg2] at o1
    cases ms with
    | cons m ms => exact o1.elim
    | nil =>
      intro v' ws' F' H' Pd' Pm sw rd' rms dd nf sub' ex
      show (∀ b, (∃ y, F0.cl.lookup y = some b) → H' b = none) → Q v' (backC H1 F0.cl H')
      intro hn'
      simp only [Reps] at rms
      obtain ⟨_, rfl⟩ := rms
      rw [uni_emp] at nf ex
      have := ok_back ok C1 rd' nf sub' ex hn'
      exact o1 v' _ _ Pd' Pa (by simpa [atE, rootOf, slotOf, pureE] using this)
end
end Ab
namespace Ab
open PySem L2 NdefX LamX
open Classical
/-! Ab55: a def within a def, its code objects told by a table that is owned -/
/-- the reading of a def within a def: the table in hand, the function new, its code object new or known -/
def tNdefX (p : NTab) (i : Nat) (q : Str) (mk : Addr → NF) : TS := fun D σ H => ∃ ps : Array Value, H p.1 = some (.tbl ps) ∧ TriplesOk ps.toList ∧
  (∀ (pos : Pos) (cv : Value), codeAmong pos ps.toList = some cv → ∃ c, cv = .ref c ∧ H c = some (CodeO c (p.2 pos.line pos.col))) ∧
  (∀ f c, H f = none → H c = some (CodeO c q) → (∃ pos : Pos, codeAmong pos ps.toList = some (.ref c)) → D.nx (σ.set i (some (.ref f))) (upd H f (FnO f (mk c)))) ∧
  ∀ (f c : Addr) (qs : Array Value), H f = none → H c = none → f ≠ c → TriplesOk qs.toList → (∀ (pos : Pos) (cv : Value), codeAmong pos qs.toList = some cv → codeAmong pos ps.toList = some cv ∨ (cv = .ref c ∧ p.2 pos.line pos.col = q)) →
    D.nx (σ.set i (some (.ref f))) (upd (upd (upd H p.1 (.tbl qs)) c (CodeO c q)) f (FnO f (mk c)))
section
variable {X : Cx}
theorem ps_ndefX {st : Stmt} {p : NTab} {c : Addr} {name : Str} {pos : Pos} {i : Nat} (e : st = .FunctionDef name (C8.fnArgs st) (C8.fnBody st) [] none [] (C8.fnScope st) none name pos) (TB : TabB X.base X.mg c p.1) (hcd : X.env.code = .ref c) (hn : p.2 pos.line pos.col = X.env.qual ++ name)
    (hfr : ∀ y ∈ (C8.fnScope st).names, y.2 = .free → X.env.scope.names.lookup y.1 = some .cell ∨ X.env.scope.names.lookup y.1 = some .free) (d0 : (C8.fnArgs st).defaults = []) (k0 : (C8.fnArgs st).kw_defaults = []) (an : annTrees (C8.fnArgs st) none X.env = [])
    (nd : X.N.Nodup) (hi : X.N[i]? = some name) (hx : Loc X.env.scope name) (hf : X.fn name = true ∨ X.env.scope.names.lookup name = some .local) :
    PS X st (tNdefX p i (X.env.qual ++ name) (NF.of st name (X.env.qual ++ name) (cloFrom X.env.cells (C8.fnScope st).names []))) := by
  refine ⟨fun pins s σ H D I h => ?_⟩
  obtain ⟨ps, hP, ht, ha, hit, new⟩ := h
  have hq : qualnameIn X.env name name = X.env.qual ++ name := by
    have hk : X.env.kindOf name = some .local ∨ X.env.kindOf name = some .cell := hx
    unfold qualnameIn
    rcases hk with k | k <;> rw [k] <;> first | rfl | exact if_neg (by decide)
  have frees : ∀ y ∈ (C8.fnScope st).names, y.2 = .free → ∃ a, X.env.cells.lookup y.1 = some a := fun y hy z => (hfr y hy z).elim (fun r => I.ok.has _ (.inl r)) fun r => I.ok.has _ (.inr r)
  have main : wpAny (model X.prog X.w) X.A (exec (.FunctionDef name (C8.fnArgs st) (C8.fnBody st) [] none [] (C8.fnScope st) none name pos) X.env) (SP X pins D) X.xe s := by
    refine PySem.W.nestDef_K d0 k0 an ?_
    rw [hq]
    have bP : s.heap.BuiltinsAt X.mg p.1 := TB.bm.keeps I.bk
    have oP : s.heap.get? p.1 = some { cls := .none, data := .fields ps } := I.hok p.1 _ hP
    cases am : codeAmong pos ps.toList with
    | some cv =>
      obtain ⟨c1, rfl, hc1⟩ := ha pos cv am
      rw [hn] at hc1
      refine PySem.W.makeFunction_hit (mg := X.mg) (c := c) (P := p.1) (ps := ps) (closure_ok frees) I.ok.glob (I.mod.glob.keeps I.bk) hcd (TB.code.keeps I.bk) oP ht am bP fun ctv doc hp tk hx2 hsz => ?_
      have I1 : Inv X pins σ H { s with heap := hp, toks := tk } := I.kept hx2
      have nF : H hp.objs.size = none := I1.hok.fresh (Nat.le_refl _)
      have I2 := inv_fn (F := NF.of st name (X.env.qual ++ name) (cloFrom X.env.cells (C8.fnScope st).names []) c1) (t' := tk) (doc := doc) (pm := (X.mg "__name__").getD .none) (ctv := ctv) I1 rfl
      exact store_ok I2 nd hi hx (v := .ref hp.objs.size) rfl (fun s2 J => ⟨_, _, J, hit _ c1 nF hc1 ⟨pos, am⟩⟩) hf
    | none =>
      refine PySem.W.makeFunction_K (mg := X.mg) (c := c) (P := p.1) (ps := ps) (closure_ok frees) I.ok.glob (I.mod.glob.keeps I.bk) hcd (TB.code.keeps I.bk) oP ht am TB.gP bP fun c1 ctv doc hp tk hx2 hge hlt hrec htb => ?_
      obtain ⟨c2, oc, vs, t, e2, hoc, hd, hv⟩ := hrec
      cases e2
      have nC : H c1 = none := I.hok.fresh hge
      have I1 := inv_table (t' := tk) (more := #[rawInt pos.line, rawInt pos.col, .ref c1]) (h' := hp) I hP (fun b o hb z => hx2 b o hb z) htb hge ⟨oc, vs, t, hoc, hd, hv⟩
      have I2 := inv_fn (F := NF.of st name (X.env.qual ++ name) (cloFrom X.env.cells (C8.fnScope st).names []) c1) (t' := tk) (doc := doc) (pm := (X.mg "__name__").getD .none) (ctv := ctv) I1 rfl
      have nF : H hp.objs.size = none := I.hok.fresh (Nat.le_trans hge (Nat.le_of_lt hlt))
      have eL : (ps ++ #[rawInt pos.line, rawInt pos.col, .ref c1]).toList = ps.toList ++ [rawInt pos.line, rawInt pos.col, .ref c1] := by simp
      refine store_ok I2 nd hi hx (v := .ref hp.objs.size) rfl (fun s2 J => ⟨_, _, J, new _ c1 _ nF nC (Nat.ne_of_gt hlt) (by rw [eL]; exact PySem.TriplesOk_snoc _ _ _ _ ht) fun p1 cv z => ?_⟩) hf
      rw [eL] at z
      rcases among_app2 _ ht z with z | ⟨z, z1, z2⟩
      · exact .inl z
      · exact .inr ⟨z, by rw [← z1, ← z2, hn]⟩
  rw [← e] at main
  exact main
end
section
variable {S : Sig} {F H : Hp} {P : Fp} {σ : L2.St} {a : SA}
theorem frzL_ok : ∀ {js : List Nat} {F : Hp} {P : Fp} {a a1 : SA}, SR S F H a σ P → frzL js a = some a1 → ∃ F1 P1, SR S F1 H a1 σ P1 ∧ Ext F F1 H H P P1
  | [], F, P, a, a1, sr, e => by
    simp only [frzL, Option.some.injEq] at e
    subst e
    exact ⟨F, P, sr, .refl⟩
  | j :: js, F, P, a, a1, sr, e => by
    simp only [frzL] at e
    cases ej : rd a j with
    | none => rw [ej] at e; cases e
    | some d =>
      rw [ej] at e
      obtain ⟨v, F2, P2, _, _, sr2, ex2⟩ := sr.freeze ej
      obtain ⟨F3, P3, sr3, ex3⟩ := frzL_ok sr2 e
      exact ⟨F3, P3, sr3, ex2.trans ex3⟩
theorem tbs_eq {o : Option D} (h : tbsIn o = true) : o = some .tbs := by
  cases o with
  | none => cases h
  | some d => cases d <;> first | rfl | cases h
end
section
variable {X : Cx} {S : Sig} {att : Nat → Str} {k : Nat} {Wd : WX} {G : Env0A} {W : Nat} {fix : List Nat}
theorem s_defn (c : Ctx X S att k Wd) {t i n : Nat} {js : List Nat} {st : Stmt} {p : NTab} {cd : Addr} {name : Str} {pos : Pos} (e : st = .FunctionDef name (C8.fnArgs st) (C8.fnBody st) [] none [] (C8.fnScope st) none name pos) (hp : p ∈ S.tabs) (hu : ∀ p' ∈ S.tabs, p'.1 = p.1 → p'.2 = p.2) (hcel : S.cel = X.env.cells)
    (hnf : ∀ cl c', S.nf n (NF.of st name (X.env.qual ++ name) cl c')) (TB : TabB X.base X.mg cd p.1) (hcd : X.env.code = .ref cd) (hn : p.2 pos.line pos.col = X.env.qual ++ name)
    (hfr : ∀ y ∈ (C8.fnScope st).names, y.2 = .free → X.env.scope.names.lookup y.1 = some .cell ∨ X.env.scope.names.lookup y.1 = some .free) (d0 : (C8.fnArgs st).defaults = []) (k0 : (C8.fnArgs st).kw_defaults = []) (an : annTrees (C8.fnArgs st) none X.env = [])
    (hi : X.N[i]? = some name) (hx : Loc X.env.scope name) (hf : X.fn name = true ∨ X.env.scope.names.lookup name = some .local) :
    PS X st (tSt S Wd G W fix (.defn t i n js)) := by
  refine (ps_ndefX (p := p) e TB hcd hn hfr d0 k0 an c.nd hi hx hf).weak fun E σ H h => ?_
  obtain ⟨F, P, a, sr, o⟩ := h
  simp only [ex] at o
  split at o
  · exact o.elim
  rename_i hc
  simp only [Bool.or_eq_true, not_or, Bool.not_eq_true] at hc
  split at o
  case h_2 => exact o.elim
  rename_i a1 ef
  split at o
  case isFalse => exact o.elim
  rename_i hts
  have hts := tbs_eq hts
  obtain ⟨F1, P1, sr1, ex1⟩ := frzL_ok sr ef
  obtain ⟨v, Q1, Q2, e1, e2, di, r, h2, put⟩ := sr1.rep.focus (rd_some hts)
  simp only [Rep] at r
  obtain ⟨ev, eQ, ht⟩ := r
  have ht0 := ht
  obtain ⟨ps, hP, hT, hco⟩ := ht p hp
  have inQ : Q1 p.1 := by rw [eQ]; exact ⟨p, hp, rfl⟩
  have held := sr1.rep.held
  have ne : ∀ {x y : Addr}, P1 x → H y = none → x ≠ y := fun {x y} hx hy z => by
    obtain ⟨o, q⟩ := held x hx
    rw [z, hy] at q; cases q
  have fresh : ∀ {x : Addr}, H x = none → F1 x = none := fun {x} hx => sr1.sub.free hx
  have hfix : ¬ i ∈ fix := by simpa using hc.1.1.1.1
  have done : ∀ {f cc : Addr} {F2 H2 : Hp} {P2 : Fp}, SR S F2 H2 a1 σ P2 → Ext F1 F2 H H2 P1 P2 → FnF F2 f (NF.of st name (X.env.qual ++ name) (cloFrom X.env.cells (C8.fnScope st).names []) cc) → E.nx (σ.set i (some (.ref f))) H2 := fun {f cc F2 H2 P2} sr2 ex2 hff => by
    have rf : Rep S F2 H2 (.fn n js) (.ref f) Emp := by
      simp only [Rep]
      exact ⟨trivial, f, _, rfl, hff, hnf _ _, by rw [hcel]; rfl⟩
    obtain ⟨P3, sr3, sb⟩ := sr2.asg (i := i) rf emp_dis (fun x z => z.elim)
    exact o _ F2 H2 P3 sr3 ((ex1.trans ex2).less fun x hx => (sb x hx).elim (fun z => z.elim) id) (Fix.set hfix)
  refine ⟨ps, hP, hT, fun ps' cv q => ?_, fun f cc nf hcc ⟨ps', q⟩ => ?_, fun f cc qs nf ncc hne hqs hq => ?_⟩
  · obtain ⟨c1, q1, q2⟩ := hco ps' cv q
    exact ⟨c1, q1, sr1.sub _ _ q2⟩
  · obtain ⟨c1, q1, q2⟩ := hco ps' _ q
    cases q1
    have q3 := sr1.sub _ _ q2
    rw [hcc] at q3
    rw [← q3] at q2
    have s12 : Same F1 (upd F1 f (FnO f (NF.of st name (X.env.qual ++ name) (cloFrom X.env.cells (C8.fnScope st).names []) cc))) := fun x o z => by
      rw [upd_ne (show x ≠ f from fun y => by rw [y, fresh nf] at z; cases z)]; exact z
    refine done (f := f) (cc := cc) (F2 := upd F1 f (FnO f (NF.of st name (X.env.qual ++ name) (cloFrom X.env.cells (C8.fnScope st).names []) cc))) (P2 := P1) ⟨sr1.rep.keep s12 fun x hx => upd_ne (ne hx nf), fun x hx => by rw [upd_ne (ne hx nf)]; exact sr1.fr x hx, fun x o z => ?_⟩ ⟨s12, fun x o z _ => ?_, fun x hx => .inl hx, fun x o z => ?_⟩ ⟨upd_same, s12 _ _ q2⟩
    · by_cases hxf : x = f
      · rw [hxf, upd_same] at z ⊢; exact z
      · rw [upd_ne hxf] at z ⊢; exact sr1.sub _ _ z
    · rw [upd_ne (show x ≠ f from fun y => by rw [y, nf] at z; cases z)]; exact z
    · by_cases hxf : x = f
      · rw [hxf]; exact .inr (.inr (.inl nf))
      · rw [upd_ne hxf] at z; exact .inl ⟨o, z⟩
  · have inP2 : ∀ x, Q2 x → P1 x := fun x hx => by rw [e2]; exact .inr hx
    have s12 : Same F1 (upd (upd F1 cc (CodeO cc (X.env.qual ++ name))) f (FnO f (NF.of st name (X.env.qual ++ name) (cloFrom X.env.cells (C8.fnScope st).names []) cc))) := fun x o z => by
      rw [upd_ne (show x ≠ f from fun y => by rw [y, fresh nf] at z; cases z), upd_ne (show x ≠ cc from fun y => by rw [y, fresh ncc] at z; cases z)]; exact z
    have k2 : ∀ x, Q2 x → upd (upd (upd H p.1 (.tbl qs)) cc (CodeO cc (X.env.qual ++ name))) f (FnO f (NF.of st name (X.env.qual ++ name) (cloFrom X.env.cells (C8.fnScope st).names []) cc)) x = H x := fun x hx => by
      rw [upd_ne (ne (inP2 x hx) nf), upd_ne (ne (inP2 x hx) ncc), upd_ne (show x ≠ p.1 from fun z => di p.1 inQ (z ▸ hx))]
    have back := put _ _ Q2 (h2.keep s12 k2) .tbs Q1 (by
      simp only [Rep]
      refine ⟨ev, eQ, fun p' hp' => ?_⟩
      have inQ' : Q1 p'.1 := by rw [eQ]; exact ⟨p', hp', rfl⟩
      have inP' : P1 p'.1 := by rw [e2]; exact .inl inQ'
      by_cases hpp : p'.1 = p.1
      · refine ⟨qs, by rw [upd_ne (ne inP' nf), upd_ne (ne inP' ncc), hpp, upd_same], hqs, fun ps' cv q => ?_⟩
        rw [hu p' hp' hpp]
        rcases hq ps' cv q with q | ⟨q, q4⟩
        · obtain ⟨c1, q1, q2⟩ := hco ps' cv q
          exact ⟨c1, q1, s12 _ _ q2⟩
        · refine ⟨cc, q, ?_⟩
          rw [upd_ne hne.symm, upd_same, q4]
      · exact (ht0 p' hp').keep s12 (by rw [upd_ne (ne inP' nf), upd_ne (ne inP' ncc), upd_ne hpp])) di
    have es : a1.set t (some .tbs) = a1 := by
      have := rd_some hts
      obtain ⟨hl, _⟩ := List.getElem?_eq_some_iff.mp this
      exact List.ext_getElem? fun m => by
        by_cases hm : m = t
        · rw [hm, this, List.getElem?_set_self hl]
        · rw [List.getElem?_set_ne (fun z => hm z.symm)]
    rw [es, ← e2] at back
    refine done (f := f) (cc := cc) (P2 := P1) ⟨back, fun x hx => by rw [upd_ne (ne hx nf), upd_ne (ne hx ncc)]; exact sr1.fr x hx, fun x o z => ?_⟩ ⟨s12, fun x o z np => ?_, fun x hx => .inl hx, fun x o z => ?_⟩ ⟨upd_same, by rw [show (NF.of st name (X.env.qual ++ name) (cloFrom X.env.cells (C8.fnScope st).names []) cc).c = cc from rfl, upd_ne hne.symm]; exact upd_same⟩
    · by_cases hxf : x = f
      · rw [hxf, upd_same] at z ⊢; exact z
      · rw [upd_ne hxf] at z ⊢
        by_cases hxc : x = cc
        · rw [hxc, upd_same] at z ⊢; exact z
        · rw [upd_ne hxc] at z ⊢
          rw [upd_ne (show x ≠ p.1 from fun y => by rw [y, sr1.fr p.1 (by rw [e2]; exact .inl inQ)] at z; cases z)]
          exact sr1.sub _ _ z
    · rw [upd_ne (show x ≠ f from fun y => by rw [y, nf] at z; cases z), upd_ne (show x ≠ cc from fun y => by rw [y, ncc] at z; cases z), upd_ne (show x ≠ p.1 from fun y => np (by rw [y, e2]; exact .inl inQ))]
      exact z
    · by_cases hxf : x = f
      · rw [hxf]; exact .inr (.inr (.inl nf))
      · rw [upd_ne hxf] at z
        by_cases hxc : x = cc
        · rw [hxc]; exact .inr (.inr (.inl ncc))
        · rw [upd_ne hxc] at z; exact .inl ⟨o, z⟩
end
end Ab
namespace Ab
open PySem L2 NdefX LamX
open Classical
/-! Ab56: functions of this frame are handed to a def: the frame's cells are told while it runs -/
abbrev cellB (X : Cx) (b : Addr) : Prop := ∃ y, X.env.cells.lookup y = some b
/-- the cells told -/
structure CellT (X : Cx) (σ : L2.St) (H Hc : Hp) : Prop where
  out : ∀ b, ¬ cellB X b → Hc b = H b
  nn : ∀ b, cellB X b → H b = none
  cel : ∀ b, cellB X b → ∃ o v, Hc b = some (.frz o (.own b)) ∧ o.data = .cell v
  val : ∀ (j : Nat) (y : Str) (v : V), X.N[j]? = some y → σ[j]? = some (some v) → X.env.scope.names.lookup y = some .cell ∨ X.env.scope.names.lookup y = some .free → ∃ c o u, X.env.cells.lookup y = some c ∧ Hc c = some (.frz o (.own c)) ∧ o.data = .cell (some u) ∧ RelV v u
section
variable {X : Cx} {σ : L2.St} {H : Hp} {s : Shared} {pins : List (Addr × Obj)}
noncomputable def tellC (X : Cx) (H : Hp) (h : Heap) : Hp := fun b => if cellB X b then (h.get? b).map fun o => .frz o (.own b) else H b
theorem tellC_in {h : Heap} {b : Addr} {o : Obj} (hb : cellB X b) (e : h.get? b = some o) : tellC X H h b = some (.frz o (.own b)) := by unfold tellC; rw [if_pos hb, e]; rfl
theorem tellC_out {h : Heap} {b : Addr} (hb : ¬ cellB X b) : tellC X H h b = H b := by unfold tellC; rw [if_neg hb]
theorem cell_at (I : Inv X pins σ H s) {b : Addr} (hb : cellB X b) : ∃ o v, s.heap.get? b = some o ∧ o.data = .cell v := by
  obtain ⟨y, hy⟩ := hb
  obtain ⟨v, o, e, d⟩ := I.cell y b hy
  exact ⟨o, v, e, d⟩
theorem told (I : Inv X pins σ H s) : CellT X σ H (tellC X H s.heap) := by
  refine ⟨fun b hb => tellC_out hb, fun b ⟨y, hy⟩ => I.freeC y b hy, fun b hb => ?_, fun j y v hj hv hk => ?_⟩
  · obtain ⟨o, v, e, d⟩ := cell_at I hb
    exact ⟨o, v, tellC_in hb e, d⟩
  · obtain ⟨c, hc⟩ : ∃ c, X.env.cells.lookup y = some c := hk.elim (fun z => I.ok.has y (.inl z)) fun z => I.ok.has y (.inr z)
    obtain ⟨m, hn, hl⟩ := I.loc
    obtain ⟨u, r, l⟩ := hl j y v hj hv (hk.elim (fun z => .inr (.inl z)) fun z => .inr (.inr z))
    rcases l with ⟨z, _⟩ | ⟨_, c', hc', o, ho, hd⟩
    · have z' : X.env.scope.names.lookup y = some .local := z
      rcases hk with k | k <;> rw [k] at z' <;> cases z'
    · rw [hc] at hc'
      cases hc'
      exact ⟨c, o, u, hc, tellC_in ⟨y, hc⟩ ho, hd, r⟩
theorem env0_tell (I : Inv X pins σ H s) (hfn : ∀ y c, X.env.cells.lookup y = some c → X.s_0.heap.objs.size ≤ c) : Env0 X.prog X.w X.K X.mg X.base X.A X.stack s (tellC X H s.heap) := by
  have e := I.env0
  have old : ∀ {b : Addr}, cellB X b → X.s_0.heap.objs.size ≤ b := fun ⟨y, hy⟩ => hfn y _ hy
  refine ⟨e.frames, e.mod, fun b o z => ⟨(e.bs b o z).1, ?_⟩, e.bsz, e.funs, fun b hb => ?_, fun b o z => ?_, e.bare⟩
  · rw [tellC_out]
    · exact (e.bs b o z).2
    · intro hb
      exact absurd (Nat.lt_of_lt_of_le (Heap.lt_size z) (Nat.le_trans I.ok.bsz (old hb))) (Nat.lt_irrefl _)
  · have nb : ¬ cellB X b := fun hc => by
      obtain ⟨y, hy⟩ := hc
      rcases I.ok.stk with z | ⟨z, zf⟩
      · rw [z] at hb
        obtain ⟨_, o, ho, _⟩ := I.ok.funs.mem hb
        exact absurd (Nat.lt_of_lt_of_le (Heap.lt_size ho) (hfn y b hy)) (Nat.lt_irrefl _)
      · rw [z] at hb
        simp only [frs, List.filterMap_cons, zf, List.mem_cons] at hb
        rcases hb with hb | hb
        · exact I.cne y b hy hb
        · obtain ⟨_, o, ho, _⟩ := I.ok.funs.mem (show b ∈ X.fs from hb)
          exact absurd (Nat.lt_of_lt_of_le (Heap.lt_size ho) (hfn y b hy)) (Nat.lt_irrefl _)
    rw [tellC_out nb]
    exact e.frf b hb
  · by_cases hb : cellB X b
    · obtain ⟨o1, v, e1, d⟩ := cell_at I hb
      rw [tellC_in hb e1] at z
      cases z
      exact ⟨e1, o1, e1⟩
    · rw [tellC_out hb] at z
      have nn : ∀ {x : Addr} {o : HO}, H x = some o → ¬ cellB X x := fun {x o} q ⟨y, hy⟩ => by rw [I.freeC y x hy] at q; cases q
      exact (I.hok b o z).stay (fun _ _ _ q => q) (fun x q => by rw [tellC_out (nn q)]; exact q) fun x xs q => by rw [tellC_out (nn q)]; exact q
/-- behind the call: the cells untold -/
theorem ce_untell {outer : List Env} {s' : Shared} {Q : VK} {u : Value} {P : Program} {w : World} (I : Inv X pins σ H s) (h : CE outer P w (tellC X H s.heap) s (fun v H2 => Q v (dropC H2 X.env.cells)) u s') : CE outer P w H s Q u s' := by
  obtain ⟨v, H2, os, bare, un, ok2, r, q⟩ := h
  have told2 : ∀ {b : Addr}, cellB X b → ∃ o, s.heap.get? b = some o ∧ H2 b = some (.frz o (.own b)) ∧ s'.heap.get? b = some o := fun {b} hb => by
    obtain ⟨o, v, e1, d⟩ := cell_at I hb
    have e2 := un.frzs b o _ (tellC_in hb e1)
    exact ⟨o, e1, e2, (ok2 b _ e2).1⟩
  have nn : ∀ {x : Addr} {o : HO}, H x = some o → ¬ cellB X x := fun {x o} q ⟨y, hy⟩ => by rw [I.freeC y x hy] at q; cases q
  refine ⟨v, dropC H2 X.env.cells, os, bare, ⟨fun b o e n nf nx => ?_, fun b o e n nf nx => ?_, fun b o e n nx => ?_, un.there, fun b xs e => ?_, fun b o u e => ?_, fun b ps e => ?_⟩, fun b o e => ?_, r, q⟩
  · by_cases hb : cellB X b
    · obtain ⟨o1, h1, _, h3⟩ := told2 hb
      rw [e] at h1; cases h1
      exact h3
    · exact un.keep b o e (by rw [tellC_out hb]; exact n) nf nx
  · by_cases hb : cellB X b
    · obtain ⟨o1, h1, _, h3⟩ := told2 hb
      rw [e] at h1; cases h1
      exact ⟨o.slots, h3⟩
    · exact un.slot b o e (by rw [tellC_out hb]; exact n) nf nx
  · by_cases hb : cellB X b
    · exact dropC_in hb
    · rw [dropC_out hb]; exact un.free b o e (by rw [tellC_out hb]; exact n) nx
  · rw [dropC_out (nn e)]; exact un.tups b xs (by rw [tellC_out (nn e)]; exact e)
  · rw [dropC_out (nn e)]; exact un.frzs b o u (by rw [tellC_out (nn e)]; exact e)
  · obtain ⟨more, z⟩ := un.tbls b ps (by rw [tellC_out (nn e)]; exact e)
    exact ⟨more, by rw [dropC_out (nn e)]; exact z⟩
  · obtain ⟨e1, nb⟩ := dropC_some e
    have keep2 : ∀ {x : Addr} {o : HO}, H2 x = some o → (∀ ob, o ≠ .frz ob (.own x)) → dropC H2 X.env.cells x = some o := fun {x o} q hne => by
      rw [dropC_out]
      · exact q
      · intro hb
        obtain ⟨o1, _, h2, _⟩ := told2 hb
        rw [q] at h2
        exact hne o1 (Option.some.inj h2)
    exact (ok2 b o e1).stay (fun _ _ _ q => q) (fun x q => keep2 q fun _ z => by cases z) fun x xs q => keep2 q fun _ z => by cases z
end
section
variable {X : Cx}
/-- a def's call while the frame's cells are told -/
def tCallH (X : Cx) (sp : Sp) (t : TA) : TE := fun σ H Q => t σ H fun vs H1 => ∀ Hc, X.Ok → CellT X σ H1 Hc → sp vs Hc (fun v H2 => Q v (dropC H2 X.env.cells)) (fun _ _ _ => False)
theorem pe_callH {k : Nat} {f : Addr} {fd : FuncData} {ps : List Str} {sp : Sp} {x : Str} {p pos : Pos} {e : Expr} {es : List Expr} {t : TA} (Fn : FnOk X.prog X.w X.K X.mg X.base (L2.CX X.prog X.w) k f fd ps sp) (hr : Room k X.A) (hg : Gl X x) (hm : X.mg x = some (.ref f)) (hk : PySem.W.keepIn X.K (.ref f) = true) (hb : Binds X.K fd ps [])
    (hfn : ∀ y, X.fn y = true) (ha : PA X (e :: es) t) (hdb : (x == ("__debug__" : Str)) = false) (hs : (e :: es).all noStar = true) : PE X (.Call (.Name x p) (e :: es) [] pos) (tCallH X sp t) := by
  have hs' := hs
  simp only [List.all_cons, Bool.and_eq_true] at hs'
  refine ⟨fun pins s σ H Q I h => ?_⟩
  refine wpAny_Call_Name_kw (ld_glob I hg hm ?_ hdb)
  refine PySem.W.callWith_K (h₀ := X.base) I.ok.mod.kin hk (thn (ha.run pos pins s σ H _ I h) fun us s1 ⟨vs, H1, I1, r, q⟩ => ⟨I1.kIn, ?_⟩) (star_cons hs'.1) (star_any hs'.2)
  have q1 := q _ I1.ok (told I1)
  have hl : us.length = ps.length := by rw [← r.length]; exact Fn.len _ _ _ _ q1
  have bd := hb s1 us I1.kIn (by rw [List.append_nil]; exact hl)
  rw [List.append_nil] at bd
  show wpAny _ _ (call (.ref f) us) _ _ _
  refine wpAny_call (codeAny_mono (Fn.run X.A X.stack s1 _ ⟨us, []⟩ us vs _ _ hr (env0_tell I1 fun y c z => I1.ok.cab y c (hfn y) z) bd r q1) fun rr s' hq => ?_)
  cases rr with
  | error e =>
    obtain ⟨_, _, _, _, _, _, _, _, _, _, _, _, z⟩ := hq
    exact z.elim
  | ok fl =>
    cases fl with
    | ret u => exact I1.after (ce_untell I1 hq)
    | next => exact False.elim hq
    | brk => exact False.elim hq
    | cont => exact False.elim hq
end
/-! ### arguments with something behind them -/
section
variable {X : Cx} {S : Sig} {G : Env0A} {W : Nat} {Z : L2.St → Nat → Hp → Prop} {C : L2.St → Prop} {T : L2.St → (List V → Hp → Prop) → List V → Hp → Prop}
abbrev tAT2 (S : Sig) (Z : L2.St → Nat → Hp → Prop) (G : Env0A) (W : Nat) (C : L2.St → Prop) (T : L2.St → (List V → Hp → Prop) → List V → Hp → Prop) (as : MAs) : TA := fun σ H Q => C σ ∧ tAVs S Z G W as σ H (T σ Q)
theorem a_rdT {e : Expr} {es : List Expr} {me : ME} {as : MAs} (hT : ∀ σ Q v vs H, T σ Q (v :: vs) H → T σ (fun xs => Q (v :: xs)) vs H) (he : PE X e (tE S Z G W false me)) (hs : PA X es (tAT2 S Z G W C T as)) (hst : starEach (e :: es) X.env = (false, eval e X.env) :: starEach es X.env) :
    PA X (e :: es) (tAT2 S Z G W C T (.cons (.rd me) as)) := by
  refine (pa_cons he hs hst).weak fun σ H Q h => ?_
  obtain ⟨hC, F, P, a, sr, o⟩ := h
  have e0 : evAs G W (.cons (.rd me) as) a = ((ev G W false me a).bind fun d s1 => (evAs G W as s1).bind fun xs s2 => .ok (.val d :: xs) s2) := by
    simp only [evAs, evA]
    cases ev G W false me a <;> rfl
  rw [e0] at o
  refine ⟨F, P, a, sr, o.bind.imp fun d a1 e1 o1 v1 F1 H1 P1 Pa1 ok1 => ⟨hC, F1, Pa1, a1, ok1.sr, (o1.bind.at ok1.ext).imp fun avs a2 e2 o2 vs F2 H2 P2 Pa2 ok2 sm2 => ?_⟩⟩
  have di := ok1.dis rfl
  have held := ok1.rep.held d
  have d2 := ok2.ext2.dis di held
  refine hT σ Q v1 vs H2 (o2 (v1 :: vs) F2 H2 (Uni P1 P2) Pa2 ⟨⟨v1, vs, P1, P2, rfl, rfl, fun x h1 h2 => d2 x h1 (.inl h2), ok2.ext.aside ok1.rep di, ok2.rep⟩, ok2.sr, ok1.ext.trans ok2.ext, ?_, Dis.uni (fun x h1 h2 => d2 x h1 (.inr h2)) ok2.dis, fun x h => h.elim (ok2.ext.unf di held (ok1.rep.notup d) (ok1.fr rfl) x) (ok2.fr x)⟩ fun h => ?_)
  · have z := ok2.ext2.frame (R := P1)
    rw [uni_comm Pa1 P1] at z
    refine ((ok1.ext2 rfl).trans z).eqP ?_
    rw [uni_comm (Uni P2 Pa2), ← uni_assoc]
  · simp only [calmAs, calmA, Bool.and_eq_true] at h
    exact (ok1.same h.1).trans (sm2 h.2)
/-- the tables behind the arguments -/
def Ttok : L2.St → (List V → Hp → Prop) → List V → Hp → Prop := fun _ Q vs H => ∀ us, vs = us ++ [V.non] → Q us H
theorem ttok_cons : ∀ (σ : L2.St) (Q : List V → Hp → Prop) (v : V) (vs : List V) (H : Hp), Ttok σ Q (v :: vs) H → Ttok σ (fun xs => Q (v :: xs)) vs H := fun σ Q v vs H h us e => h (v :: us) (by rw [e]; rfl)
abbrev tATok (S : Sig) (Z : L2.St → Nat → Hp → Prop) (G : Env0A) (W : Nat) (as : MAs) : TA := tAT2 S Z G W (fun _ => True) Ttok as
theorem tok_nil {t : Nat} {σ : L2.St} {H : Hp} {Q : List V → Hp → Prop} (h : tATok S Z G W (.cons (.tok t) .nil) σ H Q) : Q [] H := by
  obtain ⟨_, F, P, a, sr, o⟩ := h
  simp only [evAs, evA] at o
  split at o
  case isFalse => exact o.elim
  rename_i ht
  have ht := tbs_eq ht
  obtain ⟨v, P1, P2, e1, e2, di, r, h2, _⟩ := sr.rep.focus (rd_some ht)
  simp only [Rep] at r
  obtain ⟨rfl, _⟩ := r
  exact o [.non] F H Emp P ⟨⟨.non, [], rfl, e1, rfl, rfl⟩, sr, .refl, by rw [emp_uni]; exact .refl, emp_dis, fun x h => h.elim⟩ (fun _ _ _ z => z) [] rfl
theorem a_tok {t : Nat} : PA X [] (tATok S Z G W (.cons (.tok t) .nil)) := pa_nil.weak fun σ H Q h => tok_nil h
/-- functions behind the arguments -/
def Tfns (is : List Nat) : L2.St → (List V → Hp → Prop) → List V → Hp → Prop := fun σ Q vs H => ∀ cvs, slotVs σ is cvs → Q (vs ++ cvs) H
theorem tfns_cons (is : List Nat) : ∀ (σ : L2.St) (Q : List V → Hp → Prop) (v : V) (vs : List V) (H : Hp), Tfns is σ Q (v :: vs) H → Tfns is σ (fun xs => Q (v :: xs)) vs H := fun σ Q v vs H h cvs e => h cvs e
abbrev tAFns (S : Sig) (Z : L2.St → Nat → Hp → Prop) (G : Env0A) (W : Nat) (is : List Nat) (as : MAs) : TA := tAT2 S Z G W (fun σ => ∃ cvs, slotVs σ is cvs) (Tfns is) as
theorem pa_names : ∀ {is : List Nat} {es : List Expr}, PA X es (fun σ H Q => ∃ cvs, slotVs σ is cvs ∧ Q cvs H) → PA X es (tAFns S Z G W is .nil) := fun {is es} h => h.weak fun σ H Q z => by
  obtain ⟨⟨cvs, sv⟩, F, P, a, sr, o⟩ := z
  exact ⟨cvs, sv, o [] F H Emp P (.nil sr) (fun _ _ _ z => z) cvs sv⟩
theorem pa_name0 : PA X [] (fun σ H Q => ∃ cvs, slotVs σ [] cvs ∧ Q cvs H) := pa_nil.weak fun σ H Q ⟨cvs, e, q⟩ => by cases e; exact q
theorem pa_name1 {i : Nat} {is : List Nat} {x : Str} {pos : Pos} {es : List Expr} (hN : X.N[i]? = some x) (hv : Vis X.env.scope x) (hd : (x == ("__debug__" : Str)) = false) (hcd : (x == ("__classdict__" : Str)) = false)
    (hs : PA X es (fun σ H Q => ∃ cvs, slotVs σ is cvs ∧ Q cvs H)) (hst : starEach (.Name x pos :: es) X.env = (false, eval (.Name x pos) X.env) :: starEach es X.env) : PA X (.Name x pos :: es) (fun σ H Q => ∃ cvs, slotVs σ (i :: is) cvs ∧ Q cvs H) :=
  (pa_cons (pe_var hN hv hd hcd) hs hst).weak fun σ H Q ⟨cvs, e, q⟩ => by
    obtain ⟨v, r, rfl, e1, e2⟩ := e
    exact ⟨v, e1, r, e2, q⟩
end
end Ab
namespace Ab
open PySem L2 NdefX LamX
open Classical
/-! Ab57: a call that hands over functions and the tables; a call that hands over the tables -/
/-- a def's promise, the tables behind its arguments -/
def spT (S : Sig) (fix : List Nat) (g : Callee) : Sp := fun vs H Q E => spA S fix g (vs ++ [.non]) H Q E
structure LibFnT (P : Program) (w : World) (K : PySem.W.Frag) (mg : Str → Option Value) (base : Heap) (S : Sig) (fix : List Nat) (g : Callee) (k : Nat) (x : Str) : Prop where
  ex : ∃ (f : Addr) (fd : FuncData) (ps : List Str), mg x = some (.ref f) ∧ PySem.W.keepIn K (.ref f) = true ∧ FnOk P w K mg base (L2.CX P w) k f fd ps (spT S fix g) ∧ Binds K fd ps []
section
variable {X : Cx} {S : Sig} {F H : Hp} {P : Fp} {σ : L2.St} {a : SA}
theorem fns_slots : ∀ {cs : List (Nat × Nat × List Nat)}, SR S F H a σ P → (cs.all fun c => isFn c.2.1 c.2.2 (rd a c.1)) = true → ∃ cvs, slotVs σ (cs.map (·.1)) cvs
  | [], sr, h => ⟨[], rfl⟩
  | c :: cs, sr, h => by
    simp only [List.all_cons, Bool.and_eq_true] at h
    obtain ⟨cvs, e⟩ := fns_slots sr h.2
    obtain ⟨v, _, _, e1, _⟩ := sr.rep.focus (rd_some (isFn_eq h.1))
    exact ⟨v :: cvs, v, cvs, rfl, e1, e⟩
/-- the functions as closures -/
theorem clos_reps {F1 H1 Fc Hc : Hp} {P1 : Fp} (sr : SR S F1 H1 a σ P1) (okX : X.Ok) (T : CellT X σ H1 Hc) (sF : Same F1 Fc) (hFc : ∀ b, cellB X b → Fc b = Hc b) :
    ∀ {cs : List (Nat × Nat × List Nat)} {cl : List D} {cvs : List V}, (∀ c ∈ cs, ∀ F0, S.nf c.2.1 F0 → F0.cl = cloFrom S.cel F0.scope.names [] → Caps X F0.cl (S.fr c.2.1) c.2.2) → capsC a cs = some cl → slotVs σ (cs.map (·.1)) cvs → Reps S Fc Hc cl cvs Emp
  | [], cl, cvs, hc, h, sv => by
    simp only [capsC, Option.some.injEq] at h
    subst h
    cases sv
    simp only [Reps]; exact ⟨trivial, trivial⟩
  | c :: cs, cl, cvs, hc, h, sv => by
    simp only [capsC] at h
    split at h
    case isFalse => cases h
    rename_i hfn
    simp only [Option.bind_eq_some_iff] at h
    obtain ⟨ds, h1, h2⟩ := h
    split at h2
    case isFalse => cases h2
    rename_i hst
    simp only [Bool.and_eq_true] at hst
    simp only [Option.map_eq_some_iff] at h2
    obtain ⟨cl', h3, rfl⟩ := h2
    obtain ⟨v, r, rfl, e1, sv⟩ := sv
    have rest := clos_reps sr okX T sF hFc (cs := cs) (fun c hcc => hc c (List.mem_cons_of_mem _ hcc)) h3 sv
    obtain ⟨v2, P1', P2', e2, e3, di, rr, _, _⟩ := sr.rep.focus (rd_some (isFn_eq hfn))
    rw [e1] at e2; cases e2
    simp only [Rep] at rr
    obtain ⟨_, f, nf, rfl, ef, hn, hcl⟩ := rr
    have cp := hc c List.mem_cons_self nf hn hcl
    obtain ⟨wv, ew, rw_⟩ := rds_reps sr h1 hst.1
    have ncell : ∀ x o, F1 x = some o → ¬ cellB X x := fun x o e hb => by
      have := T.nn x hb
      rw [sr.sub _ _ e] at this; cases this
    have lenw : c.2.2.length = (S.fr c.2.1).length := by
      have := congrArg List.length cp.at_
      simpa using this
    have lenv : wv.length = c.2.2.length := by
      have := congrArg List.length ew
      simpa using this.symm
    simp only [Reps]
    refine ⟨.ref f, r, Emp, Emp, rfl, (uni_emp _).symm, emp_dis, ?_, rest⟩
    simp only [Rep]
    refine ⟨trivial, f, nf, wv, rfl, ef.keep sF, hn, ⟨by rw [lenv, lenw], fun y b e => ?_, fun x y b e3 e4 => okX.inj x y b (cp.sub x b e3) (cp.sub y b e4), fun i y w ey ev => ?_⟩, ?_⟩
    · have hb : cellB X b := ⟨y, cp.sub y b e⟩
      obtain ⟨o, v, q1, q2⟩ := T.cel b hb
      exact ⟨o, v, by rw [hFc b hb]; exact q1, q2⟩
    · have hm := List.mem_of_getElem? ey
      have hj : (c.2.2.map fun j => X.N[j]?)[i]? = some (some y) := by rw [cp.at_, List.getElem?_map, ey]; rfl
      rw [List.getElem?_map] at hj
      cases ej : c.2.2[i]? with
      | none => rw [ej] at hj; cases hj
      | some j =>
        rw [ej] at hj
        have hNj : X.N[j]? = some y := by simpa using hj
        have hs : (c.2.2.map (slotAt σ))[i]? = some (some w) := by rw [ew, List.getElem?_map, ev]; rfl
        rw [List.getElem?_map, ej] at hs
        have hσ : σ[j]? = some (some w) := slotAt_some (by simpa using hs)
        obtain ⟨b, o, u, q1, q2, q3, q4⟩ := T.val j y w hNj hσ (cp.kin y hm)
        exact ⟨b, o, u, cp.sup y hm b q1, by rw [hFc b ⟨y, q1⟩]; exact q2, q3, q4⟩
    · refine Reps.keep (fun x o e => ?_) ds (Reps.keep (F' := F1) (H' := Hc) (fun _ _ z => z) ds rw_ fun x z => z.elim) fun x z => z.elim
      rw [dropC_out]
      · exact sF x o e
      · rintro ⟨y, hy⟩
        exact ncell x o e ⟨y, cp.sub y x hy⟩
theorem Reps.appE {F H : Hp} : ∀ {ds : List D} {vs : List V} {es : List D} {us : List V} {Q : Fp}, Reps S F H ds vs Emp → Reps S F H es us Q → Reps S F H (ds ++ es) (vs ++ us) Q
  | [], vs, es, us, Q, h1, h2 => by
    simp only [Reps] at h1
    rw [h1.1]; exact h2
  | d :: ds, vs, es, us, Q, h1, h2 => by
    simp only [Reps] at h1
    obtain ⟨v, r, P1, P2, rfl, eP, di, r1, r2⟩ := h1
    have e1 : P1 = Emp := by funext x; exact propext ⟨fun h => by have : Uni P1 P2 x := .inl h; rw [← eP] at this; exact this, fun h => h.elim⟩
    have e2 : P2 = Emp := by funext x; exact propext ⟨fun h => by have : Uni P1 P2 x := .inr h; rw [← eP] at this; exact this, fun h => h.elim⟩
    subst e1; subst e2
    simp only [List.cons_append, Reps]
    exact ⟨v, r ++ us, Emp, Q, rfl, (emp_uni _).symm, emp_dis, r1, Reps.appE r2 h2⟩
theorem set_back {a : SA} {t : Nat} {d : D} (h : rd a t = some d) : a.set t (some d) = a := by
  have e := rd_some h
  obtain ⟨hl, _⟩ := List.getElem?_eq_some_iff.mp e
  exact List.ext_getElem? fun m => by
    by_cases hm : m = t
    · rw [hm, e, List.getElem?_set_self hl]
    · rw [List.getElem?_set_ne (fun z => hm z.symm)]
theorem hcall_ok {g : Callee} {avs : List AV} {vs cvs : List V} {F1 H1 Hc : Hp} {Pd Pa : Fp} {t n : Nat} {cs : List (Nat × Nat × List Nat)} {Z : L2.St → Nat → Hp → Prop} {Q : VK} {E : XK} (ok : OkA S F H P σ avs a vs F1 H1 Pd Pa) (o : Out S (Z σ) F H P σ (KV S F H P σ ⟨true, false, none⟩ Q) (calledH g t cs avs a))
    (okX : X.Ok) (T : CellT X σ H1 Hc) (hcap : ∀ c ∈ cs, ∀ F0, S.nf c.2.1 F0 → F0.cl = cloFrom S.cel F0.scope.names [] → Caps X F0.cl (S.fr c.2.1) c.2.2) (sv : slotVs σ (cs.map (·.1)) cvs) :
    spT S [n] g (vs ++ cvs) Hc (fun v H2 => Q v (dropC H2 X.env.cells)) E := by
  unfold calledH at o
  split at o
  case h_2 => exact o.elim
  rename_i ds cl hds hcl
  split at o
  case isFalse => exact o.elim
  rename_i hc
  simp only [Bool.and_eq_true, List.isEmpty_iff] at hc
  obtain ⟨⟨⟨hm, hb⟩, hnf⟩, ht⟩ := hc
  have ht := tbs_eq ht
  split at o
  case h_2 => exact o.elim
  rename_i d m eg
  split at o
  case isFalse => exact o.elim
  rename_i hdm
  simp only [Bool.and_eq_true] at hdm
  have em : m = .tbs := by
    have := tbs_eq (o := some m) hdm.2
    exact Option.some.inj this
  subst em
  obtain ⟨v0, TA, Q2, e1, e2, di, r, h2, put⟩ := ok.sr.rep.focus (rd_some ht)
  have rT := r
  simp only [Rep] at r
  obtain ⟨rfl, eTA, _⟩ := r
  have heldA := ok.sr.rep.held
  have ntA := ok.sr.rep.notup
  have sF1 : Same F1 (take F1 H1 Pd) := take_same ok.fr
  have subT : Same (take F1 H1 Pd) H1 := take_sub ok.sr.sub
  have nH : ∀ {x o}, H1 x = some o → ¬ cellB X x := fun {x o} e hb => by rw [T.nn x hb] at e; cases e
  let Fc : Hp := fun b => if cellB X b then Hc b else take F1 H1 Pd b
  have Fc_in : ∀ {b}, cellB X b → Fc b = Hc b := fun {b} hb => if_pos hb
  have Fc_out : ∀ {b}, ¬ cellB X b → Fc b = take F1 H1 Pd b := fun {b} hb => if_neg hb
  have sTc : Same (take F1 H1 Pd) Fc := fun x o e => by rw [Fc_out (nH (subT x o e))]; exact e
  have sFc : Same F1 Fc := sF1.trans sTc
  have subc : Same Fc Hc := fun x o e => by
    by_cases hx : cellB X x
    · rw [Fc_in hx] at e; exact e
    · rw [Fc_out hx] at e; rw [T.out x hx]; exact subT x o e
  have TAin : ∀ x, TA x → Pa x := fun x hx => by rw [e2]; exact .inl hx
  have Q2in : ∀ x, Q2 x → Pa x := fun x hx => by rw [e2]; exact .inr hx
  have nPa : ∀ x, Pa x → ¬ cellB X x := fun x hx => by obtain ⟨o, e⟩ := heldA x hx; exact nH e
  have nPd : ∀ x, Pd x → Pa x → False := fun x h1 h2 => ok.dis x h1 h2
  have rds : Reps S Fc Hc ds vs Emp := Reps.keep sTc ds (args_clo ok hm hb hds) fun x z => z.elim
  have rcl : Reps S Fc Hc cl cvs Emp := clos_reps ok.sr okX T sFc (fun b hb => Fc_in hb) hcap hcl sv
  have rtb : Rep S Fc Hc .tbs .non TA := rT.keep sFc .tbs fun x hx => T.out x (nPa x (TAin x hx))
  have rtbs : Reps S Fc Hc [.tbs] [.non] TA := by
    simp only [Reps]
    exact ⟨.non, [], TA, Emp, rfl, (uni_emp _).symm, dis_emp, rtb, rfl, rfl⟩
  refine ⟨Fc, ds ++ (cl ++ [.tbs]), TA, ?_, fun x hx => ?_, subc, ?_⟩
  · rw [List.append_assoc]
    exact Reps.appE rds (Reps.appE rcl rtbs)
  · rw [Fc_out (nPa x (TAin x hx)), take_out fun z => nPd x z (TAin x hx)]
    exact ok.sr.fr x (TAin x hx)
  rw [eg]
  intro v ws F' H' Pd' Pm sw rd' rms dd nf sub' ex
  show Q v (dropC H' X.env.cells)
  simp only [Reps] at rms
  obtain ⟨w0, wr, Pm', Pe, _, ePm, _, rm, _, rfl⟩ := rms
  rw [uni_emp] at ePm
  subst ePm
  have rm0 := rm
  simp only [Rep] at rm
  obtain ⟨rfl, ePm, _⟩ := rm
  have ePT : Pm = TA := by rw [ePm, eTA]
  subst ePT
  have cellsF : ∀ y b, X.env.cells.lookup y = some b → ∃ ob, F' b = some (.frz ob (.own b)) := fun y b hy => by
    obtain ⟨o, _, q, _⟩ := T.cel b ⟨y, hy⟩
    exact ⟨o, ex.same _ _ (by rw [Fc_in ⟨y, hy⟩]; exact q)⟩
  have heldd := rd'.held d
  have sF2 : Same F1 (dropC F' X.env.cells) := fun x o e => by
    rw [dropC_out (nH (ok.sr.sub x o e))]; exact ex.same _ _ (sFc x o e)
  have kH : ∀ x o, H1 x = some o → ¬ Pm x → dropC H' X.env.cells x = some o := fun x o e n => by
    rw [dropC_out (nH e)]
    exact ex.kept x o (by rw [T.out x (nH e)]; exact e) n
  have rd2 := Rep.noC sub' cellsF d hdm.1.1 rd'
  have rm2 := Rep.noC sub' cellsF .tbs rfl rm0
  have back := put _ _ Q2 (h2.keep sF2 fun x hx => by
    obtain ⟨o, e⟩ := heldA x (Q2in x hx)
    rw [e]; exact kH x o e fun z => di x z hx) .tbs Pm rm2 di
  rw [set_back ht] at back
  have fr2 : ∀ x, Q2 x → dropC F' X.env.cells x = none := fun x hx => by
    rw [dropC_out (nPa x (Q2in x hx))]
    cases q : F' x with
    | none => rfl
    | some o =>
      obtain ⟨ob, eb⟩ := heldA x (Q2in x hx)
      have nc := nH eb
      rcases ex.frz x o q with ⟨o', z⟩ | z | z | ⟨us, z⟩
      · rw [Fc_out nc, take_out fun y => nPd x y (Q2in x hx), ok.sr.fr x (Q2in x hx)] at z; cases z
      · exact (di x z hx).elim
      · rw [T.out x nc, eb] at z; cases z
      · rw [T.out x nc] at z
        exact absurd z (ntA x (Q2in x hx) us)
  have own2 : ∀ x, Pd' x ∨ Pm x → Pm x ∨ H1 x = none := fun x hx => by
    rcases ex.own x hx with z | z
    · exact .inl z
    · refine .inr ?_
      by_cases hc : cellB X x
      · exact T.nn x hc
      · rwa [T.out x hc] at z
  have e3 : ∀ R : Fp, (∀ x, R x → Pd' x ∨ Pm x ∨ Q2 x) → Ext F1 (dropC F' X.env.cells) H1 (dropC H' X.env.cells) (Uni Pd Pa) R := fun R hR => by
    refine ⟨sF2, fun x o e n => kH x o e fun z => n (.inr (TAin x z)), fun x hx => ?_, fun x o e => ?_⟩
    · rcases hR x hx with h | h | h
      · exact (own2 x (.inl h)).imp (fun z => .inr (TAin x z)) id
      · exact .inl (.inr (TAin x h))
      · exact .inl (.inr (Q2in x h))
    · obtain ⟨e, nc⟩ := dropC_some e
      rcases ex.frz x o e with ⟨o', z⟩ | z | z | ⟨us, z⟩
      · rw [Fc_out nc] at z
        unfold take at z
        split at z
        · rename_i p; exact .inr (.inl (.inl p))
        · exact .inl ⟨o', z⟩
      · exact .inr (.inl (.inr (TAin x z)))
      · rw [T.out x nc] at z; exact .inr (.inr (.inl z))
      · rw [T.out x nc] at z; exact .inr (.inr (.inr ⟨us, z⟩))
  have frm : ∀ x, Uni Pd' Pm x → dropC F' X.env.cells x = none := fun x hx => by
    unfold dropC; split
    · rfl
    · exact nf x hx
  refine o v _ _ Pd' (Uni Pm Q2) ⟨rd2, ⟨back, fun x h => h.elim (fun z => frm x (.inr z)) (fr2 x), dropC_same sub' _⟩, ok.ext2.trans (e3 _ fun x h => .inr h), fun _ => ok.ext2.trans (e3 _ fun x h => h.elim .inl fun z => .inr z), fun _ => Dis.uni' dd fun x h1 h2 => ?_, fun _ x h => frm x (.inl h), (fun h => nomatch h), fun i h => nomatch h⟩
  rcases own2 x (.inl h1) with z | z
  · exact di x z h2
  · obtain ⟨ob, eb⟩ := heldA x (Q2in x h2)
    rw [z] at eb; cases eb
end
section
variable {X : Cx} {S : Sig} {att : Nat → Str} {k : Nat} {Wd : WX} {G : Env0A} {W : Nat}
theorem c_hcall (c : Ctx X S att k Wd) {fi j t n : Nat} {cs : List (Nat × Nat × List Nat)} {g : Callee} {as : MAs} {x : Str} {p pos : Pos} {e : Expr} {es : List Expr} {v : Bool} (L : LibFnT X.prog X.w X.K X.mg X.base S [n] g j x) (hG : G fi = some g)
    (ha : PA X (e :: es) (tAFns S (ZW S Wd) G W (cs.map (·.1)) as)) (hcap : ∀ c ∈ cs, ∀ F0, S.nf c.2.1 F0 → F0.cl = cloFrom S.cel F0.scope.names [] → X.Ok → Caps X F0.cl (S.fr c.2.1) c.2.2) (hfn : ∀ y, X.fn y = true) (hj : j ≤ k) (hg : Gl X x) (hdb : (x == ("__debug__" : Str)) = false) (hs : (e :: es).all noStar = true) :
    PE X (.Call (.Name x p) (e :: es) [] pos) (tE S (ZW S Wd) G W v (.hcall fi as t cs)) := by
  obtain ⟨f, fd, ps, hm, hk, Fn, hb⟩ := L.ex
  refine (pe_callH Fn (c.room.mono hj) hg hm hk hb hfn ha hdb hs).weak fun σ H Q h => ?_
  obtain ⟨F, P, a, sr, o⟩ := h
  simp only [ev, hG] at o
  split at o
  · exact o.elim
  rename_i hall
  simp only [Bool.not_eq_true', Bool.not_eq_false] at hall
  refine ⟨fns_slots sr hall, F, P, a, sr, o.bind.imp fun avs a1 e1 o1 vs F1 H1 Pd Pa ok sm cvs sv Hc okX T => ?_⟩
  exact hcall_ok (Z := ZW S Wd) ok (by simpa [atE, rootOf, slotOf, pureE] using o1) okX T (fun c hc F0 h1 h2 => hcap c hc F0 h1 h2 okX) sv
/-- a call that hands over the tables -/
theorem c_callT {fi : Nat} {g : Callee} {as : MAs} {k : Nat} {f : Addr} {fd : FuncData} {ps : List Str} {x : Str} {p pos : Pos} {es : List Expr} {v : Bool} (hG : G fi = some g) (tk : Takes X Wd)
    (Fn : FnOk X.prog X.w X.K X.mg X.base (L2.CX X.prog X.w) k f fd ps (spT S (posA 0 as) g)) (hr : Room k X.A) (hg : Gl X x) (hm : X.mg x = some (.ref f)) (hk : PySem.W.keepIn X.K (.ref f) = true) (hb : Binds X.K fd ps [])
    (hdb : (x == ("__debug__" : Str)) = false) (hs : es.all noStar = true) (hz : es = [] → ∃ t, as = .cons (.tok t) .nil) (ha : PA X es (tATok S (ZW S Wd) G W as)) : PE X (.Call (.Name x p) es [] pos) (tE S (ZW S Wd) G W v (.call fi as)) := by
  refine (pe_callA Fn hr hg hm hk hb tk ha hdb hs fun h σ H Q q => by obtain ⟨t, e⟩ := hz h; rw [e] at q; exact tok_nil q).weak fun σ H Q h => ?_
  obtain ⟨F, P, a, sr, o⟩ := h
  simp only [ev, hG] at o
  refine ⟨trivial, F, P, a, sr, o.bind.imp fun avs a1 e1 o1 vs F1 H1 Pd Pa ok sm us eu => ?_⟩
  obtain ⟨q1, q2⟩ := evAs_pos 0 e1
  show spA S (posA 0 as) g (us ++ [.non]) H1 Q _
  rw [← eu, ← q1]
  refine called_ok (Z := ZW S Wd) (kp := pureAs as) ok (by simpa [atE, rootOf, slotOf, pureE] using o1) (fun h => ?_) fun c H' z => z
  obtain ⟨z1, z2⟩ := pureAs_mv h
  exact ⟨by rw [q2, z1], sm z2⟩
end
end Ab
namespace Ab
open PySem L2 NdefX LamX
open Classical
/-! Ab58: defs that take the tables, defs that make functions, the functions' own bodies -/
section
variable {S : Sig} {ce : List (Str × Addr)}
mutual
theorem nOk_noFn : ∀ d : D, nOk d = true → noFn d = true
  | .int _, _ => rfl
  | .tup ds, h => nOks_noFn ds h
  | .non, h => by simp [nOk] at h
  | .bl _, h => by simp [nOk] at h
  | .str _, h => by simp [nOk] at h
  | .lst _ _, h => by simp [nOk] at h
  | .ins _ _ _, h => by simp [nOk] at h
  | .scr _, h => by simp [nOk] at h
  | .dic _ _ _ _, h => by simp [nOk] at h
  | .clo _ _, h => by simp [nOk] at h
  | .fn _ _, h => by simp [nOk] at h
  | .tbs, h => by simp [nOk] at h
theorem nOks_noFn : ∀ ds : List D, nOks ds = true → noFns ds = true
  | [], _ => rfl
  | d :: ds, h => by
    simp only [nOks, Bool.and_eq_true] at h
    simp only [noFns, Bool.and_eq_true]
    exact ⟨nOk_noFn d h.1, nOks_noFn ds h.2⟩
end
mutual
/-- what tells of no function of the frame holds in every frame -/
theorem Rep.at_ (F H : Hp) : ∀ (d : D) {F : Hp} {v : V} {P : Fp}, noFn d = true → Rep S F H d v P → Rep (S.at ce) F H d v P
  | .non, F, v, P, n, h => h
  | .bl b, F, v, P, n, h => h
  | .int i, F, v, P, n, h => h
  | .str s, F, v, P, n, h => h
  | .tup ds, F, v, P, n, h => by
    simp only [Rep] at h ⊢
    obtain ⟨e, a, vs, ev, ea, h⟩ := h
    exact ⟨e, a, vs, ev, ea, Reps.at_ F H ds (by simpa only [noFn] using n) h⟩
  | .lst m ds, F, v, P, n, h => by
    simp only [noFn] at n
    simp only [Rep] at h ⊢
    obtain ⟨a, vs, ev, h⟩ := h
    refine ⟨a, vs, ev, ?_⟩
    split at h
    · rename_i hm
      obtain ⟨ea, pa, P', np, eP, h⟩ := h
      rw [if_pos hm]
      exact ⟨ea, pa, P', np, eP, Reps.at_ F H ds n h⟩
    · rename_i hm
      rw [if_neg hm]
      exact ⟨h.1, h.2.1, Reps.at_ F H ds n h.2.2⟩
  | .ins m c ds, F, v, P, n, h => by
    simp only [noFn] at n
    simp only [Rep] at h ⊢
    obtain ⟨a, cl', dx, vs, ev, hcl, hl, h⟩ := h
    refine ⟨a, cl', dx, vs, ev, hcl, hl, ?_⟩
    split at h
    · rename_i hm
      obtain ⟨ea, pa, P', np, eP, h⟩ := h
      rw [if_pos hm]
      exact ⟨ea, pa, P', np, eP, Reps.at_ F H ds n h⟩
    · rename_i hm
      rw [if_neg hm]
      exact ⟨h.1, h.2.1, Reps.at_ F H ds n h.2.2⟩
  | .dic m t ks ds, F, v, P, n, h => by
    simp only [noFn] at n
    simp only [Rep] at h ⊢
    obtain ⟨a, vs, bs, ev, hk, hl, hb, h⟩ := h
    refine ⟨a, vs, bs, ev, hk, hl, fun e => Reps.at_ F H ks (nOks_noFn ks (kOks_n e hk)) (hb e), ?_⟩
    split at h
    · rename_i hm
      obtain ⟨ea, pa, P', np, eP, h⟩ := h
      rw [if_pos hm]
      exact ⟨ea, pa, P', np, eP, Reps.at_ F H ds n h⟩
    · rename_i hm
      rw [if_neg hm]
      exact ⟨h.1, h.2.1, Reps.at_ F H ds n h.2.2⟩
  | .scr is, F, v, P, n, h => h
  | .clo k cap, F, v, P, n, h => by
    simp only [noFn] at n
    simp only [Rep] at h ⊢
    obtain ⟨e, f, nf, ws, ev, ef, hn, hc, h⟩ := h
    exact ⟨e, f, nf, ws, ev, ef, hn, hc, Reps.at_ F H cap n h⟩
  | .fn k js, F, v, P, n, h => by simp [noFn] at n
  | .tbs, F, v, P, n, h => h
theorem Reps.at_ (F H : Hp) : ∀ (ds : List D) {F : Hp} {vs : List V} {P : Fp}, noFns ds = true → Reps S F H ds vs P → Reps (S.at ce) F H ds vs P
  | [], F, vs, P, n, h => h
  | d :: ds, F, vs, P, n, h => by
    simp only [noFns, Bool.and_eq_true] at n
    simp only [Reps] at h ⊢
    obtain ⟨v, r, P1, P2, e1, e2, di, h1, h2⟩ := h
    exact ⟨v, r, P1, P2, e1, e2, di, Rep.at_ F H d n.1 h1, Reps.at_ F H ds n.2 h2⟩
end
/-- the promise of a def that makes functions, in the terms of its own frame -/
theorem spN_at {fix : List Nat} {G : Env0A} {W : Nat} {f : MF} {vs : List V} {H : Hp} {Q : VK} {E : XK} (h : spA S fix (runN G W f) vs H Q E) : spA (S.at ce) fix (runF G W f) vs H Q E := by
  obtain ⟨F, ds, P, r, fr, sub, rz⟩ := h
  unfold runN at rz
  split at rz
  case isFalse => exact rz.elim
  rename_i hn
  refine ⟨F, ds, P, Reps.at_ F H ds hn r, fr, sub, ?_⟩
  cases eg : runF G W f ds with
  | bad => rw [eg] at rz; exact rz.elim
  | ok d ms =>
    rw [eg] at rz
    simp only at rz
    split at rz
    case isFalse => exact rz.elim
    rename_i hd
    simp only [Bool.and_eq_true] at hd
    intro v ws F' H' Pd Pm sw rd rm di nf sub' ex
    have r1 := Rep.at_ (S := S.at ce) (ce := S.cel) F' H' d hd.1 rd
    have r2 := Reps.at_ (S := S.at ce) (ce := S.cel) F' H' ms hd.2 rm
    exact rz v ws F' H' Pd Pm sw r1 r2 di nf sub' ex
  | rz c ms =>
    rw [eg] at rz
    simp only at rz
    split at rz
    case isFalse => exact rz.elim
    rename_i hd
    intro ws F' H' Pm sw rm nf sub' ex
    have r2 := Reps.at_ (S := S.at ce) (ce := S.cel) F' H' ms hd rm
    exact rz ws F' H' Pm sw r2 nf sub' ex
end
/-- a slot that is no name's may be told anything -/
theorem inv_set {X : Cx} {pins : List (Addr × Obj)} {σ : L2.St} {H : Hp} {s : Shared} {i : Nat} {y : Str} {o : Option V} (I : Inv X pins σ H s) (hi : X.N[i]? = some y) (hv : ¬ Vis X.env.scope y) : Inv X pins (σ.set i o) H s := by
  obtain ⟨m, hn, hl⟩ := I.loc
  refine { I with loc := ⟨m, hn, fun j x v e1 e2 e3 => ?_⟩, len := by rw [List.length_set]; exact I.len }
  by_cases hj : j = i
  · rw [hj, hi] at e1
    cases e1
    exact absurd e3 hv
  · exact hl j x v e1 (by rw [List.getElem?_set_ne (fun z => hj z.symm)] at e2; exact e2) e3
theorem pss_set {X : Cx} {body : List Stmt} {t : TS} {i : Nat} {y : Str} {o : Option V} (h : PSs X body t) (hi : X.N[i]? = some y) (hv : ¬ Vis X.env.scope y) : PSs X body (fun E σ H => t E (σ.set i o) H) :=
  ⟨fun pins s σ H E I q => h.run pins s (σ.set i o) H E (inv_set I hi hv) q⟩
section
variable {S : Sig}
/-- what a def's body leaves -/
theorem rz_body {S : Sig} {G : Env0A} {W : Nat} {f : MF} {F H : Hp} {P : Fp} {vs : List V} {Q : VK} {E : XK} {n : Nat} {s0 : SA} (nd : nodupB f.fix = true) (hf : ∀ i ∈ f.fix, i < vs.length)
    (rz : RzOk S F H P f.fix vs Q E (resOf f.fix (exs G W f.fix f.body s0))) :
    OutS S (fun cls d _ H => E cls d H) f.fix F H P (vs.map some ++ List.replicate n none) { nx := fun _ H' => Q .non H', rt := Q } (exs G W f.fix f.body s0) := by
  have back : ∀ {s' : SA} {ms : List D} {σ' : L2.St} {F' H' : Hp} {Pa : Fp}, mvals s' f.fix = some ms → SR S F' H' s' σ' Pa → Fix f.fix (vs.map some ++ List.replicate n none) σ' → ∃ ws Pm, slotVs (vs.map some) f.fix ws ∧ Reps S F' H' ms ws Pm ∧ ∀ x, Pm x → Pa x := fun {s' ms σ' F' H' Pa} em sr fx => by
    rw [mvals_eq] at em
    obtain ⟨ws, Pm, Pr, sv, rm, _, eP, _⟩ := sr.rep.out nd em
    exact ⟨ws, Pm, slots_start (fun i hi => ⟨hf i hi, fx i hi⟩) sv, rm, fun x h => by rw [eP]; exact .inl h⟩
  generalize exs G W f.fix f.body s0 = out at rz
  cases out with
  | bad => exact rz.elim
  | bk s' => exact rz.elim
  | ct s' => exact rz.elim
  | nx s' =>
    intro σ' F' H' Pa sr ex fx
    simp only [resOf] at rz
    split at rz
    case h_2 => exact rz.elim
    rename_i ms em
    obtain ⟨ws, Pm, sv, rm, sb⟩ := back em sr fx
    refine rz .non ws F' H' Emp Pm sv (rep_non.mpr ⟨rfl, rfl⟩) rm emp_dis (fun x h => h.elim (fun z => z.elim) fun z => sr.fr x (sb x z)) sr.sub (ex.less fun x h => h.elim (fun z => z.elim) (sb x))
  | rt d s' =>
    intro v σ' F' H' Pd Pa rd' sr ex di frd fx
    simp only [resOf] at rz
    split at rz
    case h_2 => exact rz.elim
    rename_i ms em
    obtain ⟨ws, Pm, sv, rm, sb⟩ := back em sr fx
    exact rz v ws F' H' Pd Pm sv rd' rm (fun x h1 h2 => di x h1 (sb x h2)) (fun x h => h.elim (frd x) fun z => sr.fr x (sb x z)) sr.sub (ex.less fun x h => h.elim .inl fun z => .inr (sb x z))
  | rz c s' =>
    intro σ' F' H' Pa sr ex fx
    simp only [resOf] at rz
    split at rz
    case h_2 => exact rz.elim
    rename_i ms em
    obtain ⟨ws, Pm, sv, rm, sb⟩ := back em sr fx
    exact rz ws F' H' Pm sv rm (fun x h => sr.fr x (sb x h)) sr.sub (ex.less sb)
theorem spA_run {fix : List Nat} {G : Env0A} {W : Nat} {f : MF} {vs : List V} {H : Hp} {Q : VK} {E : XK} (h : spA S fix (runF G W f) vs H Q E) : ∃ F ds P, Reps S F H ds vs P ∧ (∀ x, P x → F x = none) ∧ Same F H ∧ vs.length = f.np ∧ RzOk S F H P fix vs Q E (resOf f.fix (exs G W f.fix f.body (ds.map some ++ List.replicate (f.ns - f.np) none))) := by
  obtain ⟨F, ds, P, r, fr, sub, rz⟩ := h
  unfold runF at rz
  split at rz
  · rename_i hl
    exact ⟨F, ds, P, r, fr, sub, by rw [Reps.len r, hl], rz⟩
  · exact rz.elim
/-- a def that takes the tables behind its arguments -/
theorem fn_okT {Pg : Program} {w : World} {K : PySem.W.Frag} {mg : Str → Option Value} {base : Heap} {x qual : Str} {st : Stmt} {fa : Addr} {fd : FuncData} {N ps : List Str} {k : Nat} {G : Env0A} {W : Nat} {f : MF} {y : Str}
    (Fu : Fun K x qual st fa fd) (Sc : FnScope N ps (defScope st)) (hp : f.np = ps.length + 1) (hn : f.ns = N.length) (nd : nodupB f.fix = true) (hf : ∀ i ∈ f.fix, i < f.np) (hy : N[ps.length]? = some y) (hv : (defScope st).names.lookup y = none)
    (hb : ∀ (cdv : Value) (A : Around) (outer : List Env) (s : Shared) (H : Hp) (E : XK), Room k (A.deeper (PyProof.Rows.envOfC qual (defScope st) s.heap.objs.size fa cdv)) →
      PSs (cxOf (L2.CX Pg w) Pg w K mg base N qual (defScope st) fa cdv A outer s H E) (defBody st) (tSs S (fun cls d _ H => E cls d H) G W f.fix f.body)) :
    FnOk Pg w K mg base (L2.CX Pg w) (k + 1) fa fd ps (spT S f.fix (runF G W f)) := by
  have key : ∀ {vs : List V} {H : Hp} {Q : VK} {E : XK}, spT S f.fix (runF G W f) vs H Q E → ∃ F ds P, Reps S F H ds (vs ++ [.non]) P ∧ (∀ x, P x → F x = none) ∧ Same F H ∧ (vs ++ [V.non]).length = f.np ∧ RzOk S F H P f.fix (vs ++ [.non]) Q E (resOf f.fix (exs G W f.fix f.body (ds.map some ++ List.replicate (f.ns - f.np) none))) := fun {vs H Q E} h => spA_run (show spA S f.fix (runF G W f) (vs ++ [.non]) H Q E from h)
  refine Fu.okX Sc (fun vs H Q E h => ?_) fun cdv A outer s H vs Q E hr h => ?_
  · obtain ⟨_, _, _, _, _, _, hl, _⟩ := key h
    rw [List.length_append, hp] at hl
    simpa using hl
  · obtain ⟨F, ds, P, r, fr, sub, hl, rz⟩ := key h
    have hl2 : vs.length = ps.length := by
      rw [List.length_append, hp] at hl
      simpa using hl
    have hlt : ps.length < N.length := (List.getElem?_eq_some_iff.mp hy).1
    have est : (L2.start N vs).set ps.length (some V.non) = (vs ++ [V.non]).map some ++ List.replicate (f.ns - f.np) none := by
      unfold L2.start
      rw [hn, hp, hl2]
      obtain ⟨m, hm⟩ : ∃ m, N.length - ps.length = m + 1 := ⟨N.length - ps.length - 1, by omega⟩
      have e2 : N.length - (ps.length + 1) = m := by omega
      rw [hm, e2, List.set_append_right _ _ (by rw [List.length_map]; omega), List.length_map, hl2, Nat.sub_self, List.replicate_succ, List.set_cons_zero, List.map_append, List.append_assoc]
      rfl
    refine ⟨_, pss_set (o := some V.non) (hb cdv A outer s H E hr) hy (fun z => ?_), ?_⟩
    · have z : Vis (defScope st) y := z
      unfold Vis at z
      rw [hv] at z
      rcases z with z | z | z <;> cases z
    · show tSs _ _ _ _ _ _ _ ((L2.start N vs).set ps.length (some V.non)) H
      rw [est]
      exact ⟨F, P, _, ⟨RepS.ofReps (f.ns - f.np) r, fr, sub⟩, rz_body nd (fun i hi => by rw [hl]; exact hf i hi) rz⟩
/-- .. and makes functions -/
theorem fn_okN {Pg : Program} {w : World} {K : PySem.W.Frag} {mg : Str → Option Value} {base : Heap} {x qual : Str} {st : Stmt} {fa : Addr} {fd : FuncData} {N ps : List Str} {k : Nat} {G : Env0A} {W : Nat} {f : MF} {y : Str}
    (Fu : Fun K x qual st fa fd) (Sc : FnScope N ps (defScope st)) (hp : f.np = ps.length + 1) (hn : f.ns = N.length) (nd : nodupB f.fix = true) (hf : ∀ i ∈ f.fix, i < f.np) (hy : N[ps.length]? = some y) (hv : (defScope st).names.lookup y = none)
    (hb : ∀ (A : Around) (outer : List Env) (s : Shared) (H : Hp) (E : XK), Room k (A.deeper (PyProof.Rows.envOfC qual (defScope st) s.heap.objs.size fa fd.code)) →
      PSs (cxOf (L2.CX Pg w) Pg w K mg base N qual (defScope st) fa fd.code A outer s H E) (defBody st) (tSs (S.at (cxOf (L2.CX Pg w) Pg w K mg base N qual (defScope st) fa fd.code A outer s H E).env.cells) (fun cls d _ H => E cls d H) G W f.fix f.body)) :
    FnOk Pg w K mg base (L2.CX Pg w) (k + 1) fa fd ps (spT S f.fix (runN G W f)) := by
  have len : ∀ vs H Q E, spT S f.fix (runN G W f) vs H Q E → vs.length = ps.length := fun vs H Q E h => by
    obtain ⟨_, _, _, _, _, _, hl, _⟩ := spA_run (spN_at (ce := []) (show spA S f.fix (runN G W f) (vs ++ [.non]) H Q E from h))
    rw [List.length_append, hp] at hl
    simpa using hl
  obtain ⟨oc, od, kV, doc, pm, an, cdv, ct, osl, rfl, lk, hcd⟩ := Fu.ex
  refine fn_of lk hcd Sc len fun A outer s H vs Q E hr h => ?_
  obtain ⟨F, ds, P, r, fr, sub, hl, rz⟩ := spA_run (spN_at (ce := (cxOf (L2.CX Pg w) Pg w K mg base N qual (defScope st) fa cdv A outer s H E).env.cells) (show spA S f.fix (runN G W f) (vs ++ [.non]) H Q E from h))
  have hl2 : vs.length = ps.length := len vs H Q E h
  have hlt : ps.length < N.length := (List.getElem?_eq_some_iff.mp hy).1
  have est : (L2.start N vs).set ps.length (some V.non) = (vs ++ [V.non]).map some ++ List.replicate (f.ns - f.np) none := by
    unfold L2.start
    rw [hn, hp, hl2]
    obtain ⟨m, hm⟩ : ∃ m, N.length - ps.length = m + 1 := ⟨N.length - ps.length - 1, by omega⟩
    have e2 : N.length - (ps.length + 1) = m := by omega
    rw [hm, e2, List.set_append_right _ _ (by rw [List.length_map]; omega), List.length_map, hl2, Nat.sub_self, List.replicate_succ, List.set_cons_zero, List.map_append, List.append_assoc]
    rfl
  refine ⟨_, pss_set (o := some V.non) (hb A outer s H E hr) hy (fun z => ?_), ?_⟩
  · have z : Vis (defScope st) y := z
    unfold Vis at z
    rw [hv] at z
    rcases z with z | z | z <;> cases z
  · show tSs _ _ _ _ _ _ _ ((L2.start N vs).set ps.length (some V.non)) H
    rw [est]
    exact ⟨F, P, _, ⟨RepS.ofReps (f.ns - f.np) r, fr, sub⟩, rz_body nd (fun i hi => by rw [hl]; exact hf i hi) rz⟩
end
end Ab
namespace Ab
open PySem L2 NdefX LamX
open Classical
/-! Ab59: a function's body; the rules as the printed terms use them -/
section
variable {P : Program} {w : World} {K : PySem.W.Frag} {mg : Str → Option Value} {base : Heap} {S : Sig}
theorem clo_ok {n k : Nat} {st : Stmt} {name qual : Str} {N ps fr : List Str} {G : Env0A} {W : Nat} {f : MF} (hnf : ∀ F0, S.nf n F0 → ∃ cl c, F0 = NF.of st name qual cl c) (hfr : S.fr n = fr) (Sc : NScope N ps fr (C8.fnScope st))
    (hbd : ∀ (cl : List (Str × Addr)) (c : Addr) (doc pm ctv : Value) (us : List Value), us.length = ps.length → bindArgs ((NF.of st name qual cl c).fd doc pm ctv) ⟨us, []⟩ = pure (ps.zip us)) (hp : f.np = ps.length + fr.length) (hn : f.ns = N.length) (hfix : f.fix = [])
    (body : ∀ (cl : List (Str × Addr)) (c f' : Addr) (A : Around) (outer : List Env) (s : Shared) (H : Hp) (E : XK), Room k (A.deeper (envF (NF.of st name qual cl c) f' s.heap.objs.size)) → PSs (ncx (L2.CX P w) P w K mg base N (NF.of st name qual cl c) f' A outer s H E) (C8.fnBody st) (tSs S (fun cls d _ H => E cls d H) G W [] f.body)) :
    LibClo P w K mg base S n (runF G W f) (k + 1) := by
  refine ⟨fun F0 h0 f' => ?_⟩
  obtain ⟨cl, c, rfl⟩ := hnf F0 h0
  have key : ∀ {ws : List (Option V)} {vs : List V} {H : Hp} {Q : VK} {E : XK}, spN S (S.fr n).length (runF G W f) ws vs H Q E → ∃ wv : List V, ws = wv.map some ∧ wv.length = fr.length ∧ ∃ F ds cap, Reps S F H ds vs Emp ∧ Reps S F H cap wv Emp ∧ Same F H ∧ vs.length = ps.length ∧
      RzOk S F H Emp [] (vs ++ wv) Q E (resOf f.fix (exs G W f.fix f.body ((ds ++ cap).map some ++ List.replicate (f.ns - f.np) none))) := fun {ws vs H Q E} h => by
    obtain ⟨wv, e1, e2, F, ds, cap, r1, r2, sub, rz⟩ := h
    rw [hfr] at e2
    unfold runF at rz
    split at rz
    case isFalse => exact rz.elim
    rename_i hl
    refine ⟨wv, e1, e2, F, ds, cap, r1, r2, sub, ?_, ?_⟩
    · have l1 := Reps.len r1
      have l2 := Reps.len r2
      rw [List.length_append, hp] at hl
      omega
    · revert rz
      generalize resOf f.fix (exs G W f.fix f.body ((ds ++ cap).map some ++ List.replicate (f.ns - f.np) none)) = out
      intro rz
      cases out <;> exact rz
  refine ⟨ps, ?_⟩
  rw [hfr] at *
  refine nok_of Sc (fun doc pm ctv us hl => hbd cl c doc pm ctv us hl) (fun ws vs H Q E h => ?_) fun A outer s H vs ws Q E hr hf hc hlw h => ?_
  · obtain ⟨_, _, _, _, _, _, _, _, _, hl, _⟩ := key (by rw [hfr]; exact h)
    exact hl
  · obtain ⟨wv, rfl, lw, F, ds, cap, r1, r2, sub, hl, rz⟩ := key (by rw [hfr]; exact h)
    refine ⟨_, body cl c f' A outer s H E hr, ?_⟩
    have est : startF N vs (wv.map some) = (vs ++ wv).map some ++ List.replicate (f.ns - f.np) none := by
      unfold startF
      rw [List.length_map, List.map_append, List.append_assoc, hn, hp, hl, lw, Nat.sub_sub]
    rw [est]
    refine ⟨F, Emp, _, ⟨RepS.ofReps (f.ns - f.np) (Reps.appE r1 r2), fun x z => z.elim, sub⟩, ?_⟩
    have := rz_body (S := S) (G := G) (W := W) (f := f) (n := f.ns - f.np) (s0 := (ds ++ cap).map some ++ List.replicate (f.ns - f.np) none) (by rw [hfix]; rfl) (fun i hi => by rw [hfix] at hi; cases hi) (by rw [hfix] at rz ⊢; exact rz)
    rw [hfix] at this
    exact this
theorem takes_ncx {N : List Str} {F0 : NF} {f : Addr} {A : Around} {outer : List Env} {s : Shared} {H : Hp} {E : XK} : Takes (ncx (L2.CX P w) P w K mg base N F0 f A outer s H E) (fun cls d _ H => E cls d H) := fun u s' x => by
  exact XE.leave (W := fun cls d _ H => E cls d H) (E := E) rfl rfl rfl (fun _ _ _ _ h => h) x
end
theorem LibFnT.mkF {P : Program} {w : World} {K : PySem.W.Frag} {mg : Str → Option Value} {base : Heap} {S : Sig} {x qual : Str} {st : Stmt} {f : Addr} {fd : FuncData} {ps : List Str} {fix : List Nat} {g : Callee} {k : Nat} (F : Fun K x qual st f fd) (hm : mg x = some (.ref f)) (Fn : FnOk P w K mg base (L2.CX P w) k f fd ps (spT S fix g)) (hb : Binds K fd ps []) : LibFnT P w K mg base S fix g k x :=
  ⟨f, fd, ps, hm, F.kp, Fn, hb⟩
section
variable {X : Cx} {S : Sig} {att : Nat → Str} {k : Nat} {Wd : WX} {G : Env0A} {W : Nat} {Z : L2.St → Nat → Hp → Prop} {fix : List Nat} {is : List Nat}
theorem k_tok (t : Nat) : PA X [] (tATok S Z G W (.cons (.tok t) .nil)) := a_tok
theorem k_rdT {e : Expr} {es : List Expr} {me : ME} {as : MAs} (he : PE X e (tE S Z G W false me)) (hs : PA X es (tATok S Z G W as)) (hst : noStar e = true := by rfl) : PA X (e :: es) (tATok S Z G W (.cons (.rd me) as)) := a_rdT ttok_cons he hs (star_cons hst)
theorem k_callT (c : Ctx X S att k Wd) {fi j : Nat} {g : Callee} {as : MAs} {fx : List Nat} {x : Str} {p pos : Pos} {es : List Expr} {v : Bool} (L : LibFnT X.prog X.w X.K X.mg X.base S fx g j x) (hG : G fi = some g) (ha : PA X es (tATok S (ZW S Wd) G W as)) (hj : j ≤ k := by decide) (hp : posA 0 as = fx := by rfl) (hg : Gl X x := by rfl)
    (hdb : (x == ("__debug__" : Str)) = false := by decide) (hs : es.all noStar = true := by rfl) (hz : es = [] → ∃ t, as = .cons (.tok t) .nil := by first | exact fun h => nomatch h | exact fun _ => ⟨_, rfl⟩) : PE X (.Call (.Name x p) es [] pos) (tE S (ZW S Wd) G W v (.call fi as)) := by
  obtain ⟨f, fd, ps, hm, hk, F, hb⟩ := L.ex
  subst hp
  exact c_callT hG c.tk F (c.room.mono hj) hg hm hk hb hdb hs hz ha
theorem k_fn0 : PA X [] (fun σ H Q => ∃ cvs, slotVs σ [] cvs ∧ Q cvs H) := pa_name0
theorem k_fn1 (i : Nat) {is : List Nat} {x : Str} {pos : Pos} {es : List Expr} (hs : PA X es (fun σ H Q => ∃ cvs, slotVs σ is cvs ∧ Q cvs H)) (hN : X.N[i]? = some x := by rfl) (hv : Vis X.env.scope x := by first | exact Or.inl rfl | exact Or.inr (Or.inl rfl) | exact Or.inr (Or.inr rfl)) (hd : (x == ("__debug__" : Str)) = false := by decide)
    (hcd : (x == ("__classdict__" : Str)) = false := by decide) : PA X (.Name x pos :: es) (fun σ H Q => ∃ cvs, slotVs σ (i :: is) cvs ∧ Q cvs H) := pa_name1 hN hv hd hcd hs (star_cons rfl)
theorem k_fns {es : List Expr} (h : PA X es (fun σ H Q => ∃ cvs, slotVs σ is cvs ∧ Q cvs H)) : PA X es (tAFns S Z G W is .nil) := pa_names h
theorem k_rdF {e : Expr} {es : List Expr} {me : ME} {as : MAs} (he : PE X e (tE S Z G W false me)) (hs : PA X es (tAFns S Z G W is as)) (hst : noStar e = true := by rfl) : PA X (e :: es) (tAFns S Z G W is (.cons (.rd me) as)) := a_rdT (tfns_cons is) he hs (star_cons hst)
theorem k_hcall (c : Ctx X S att k Wd) (t n : Nat) (cs : List (Nat × Nat × List Nat)) {fi j : Nat} {g : Callee} {as : MAs} {x : Str} {p pos : Pos} {e : Expr} {es : List Expr} {v : Bool} (L : LibFnT X.prog X.w X.K X.mg X.base S [n] g j x) (hG : G fi = some g)
    (ha : PA X (e :: es) (tAFns S (ZW S Wd) G W (cs.map (·.1)) as)) (hcap : ∀ c ∈ cs, ∀ F0, S.nf c.2.1 F0 → F0.cl = cloFrom S.cel F0.scope.names [] → X.Ok → Caps X F0.cl (S.fr c.2.1) c.2.2) (hfn : ∀ y, X.fn y = true := by exact fun _ => rfl) (hj : j ≤ k := by decide) (hg : Gl X x := by rfl) (hdb : (x == ("__debug__" : Str)) = false := by decide)
    (hs : (e :: es).all noStar = true := by rfl) : PE X (.Call (.Name x p) (e :: es) [] pos) (tE S (ZW S Wd) G W v (.hcall fi as t cs)) := c_hcall c L hG ha hcap hfn hj hg hdb hs
theorem k_callc (c : Ctx X S att k Wd) (i : Nat) {j : Nat} {as : MAs} {x : Str} {p pos : Pos} {e : Expr} {es : List Expr} {v : Bool} (L : ∀ n g F0, G n = some g → S.nf n F0 → LibClo X.prog X.w X.K X.mg X.base S n g j) (ha : PA X (e :: es) (tAVs S (ZW S Wd) G W as)) (hj : j ≤ k := by decide)
    (hN : X.N[i]? = some x := by rfl) (hv : Vis X.env.scope x := by first | exact Or.inl rfl | exact Or.inr (Or.inl rfl) | exact Or.inr (Or.inr rfl)) (hd : (x == ("__debug__" : Str)) = false := by decide) (hcd : (x == ("__classdict__" : Str)) = false := by decide)
    (hs : (e :: es).all noStar = true := by rfl) : PE X (.Call (.Name x p) (e :: es) [] pos) (tE S (ZW S Wd) G W v (.callc i as)) := by
  have hs' := hs
  simp only [List.all_cons, Bool.and_eq_true] at hs'
  exact c_callc c L ha hj hN hv hd hcd (star_cons hs'.1) (star_any hs'.2)
/-- what a function of this frame captured -/
theorem caps_mk {n : Nat} {st : Stmt} {name qual : Str} {fr : List Str} {js : List Nat} (hnf : ∀ F0, S.nf n F0 → ∃ cl c, F0 = NF.of st name qual cl c) (hfr : S.fr n = fr) (hcel : S.cel = X.env.cells) (hb : ndefB X.env.scope (C8.fnScope st) fr = true) (hjs : js.map (fun j => X.N[j]?) = fr.map some) :
    X.Ok → ∀ F0, S.nf n F0 → F0.cl = cloFrom S.cel F0.scope.names [] → Caps X F0.cl (S.fr n) js := fun okX F0 h0 hcl => by
  obtain ⟨cl, c, rfl⟩ := hnf F0 h0
  rw [hcl, hcel, hfr]
  exact Caps.made okX (ndef_free hb) (ndef_fr hb) hjs
theorem ks_defn (c : Ctx X S att k Wd) (t i n : Nat) (js : List Nat) {st : Stmt} {p : NTab} {cd : Addr} {name : Str} {pos : Pos} {fr : List Str} (hp : p ∈ S.tabs) (hu : ∀ p' ∈ S.tabs, p'.1 = p.1 → p'.2 = p.2) (hcel : S.cel = X.env.cells)
    (hnf : ∀ cl c', S.nf n (NF.of st name (X.env.qual ++ name) cl c')) (TB : TabB X.base X.mg cd p.1) (hcd : X.env.code = .ref cd) (hn : p.2 pos.line pos.col = X.env.qual ++ name) (hb : ndefB X.env.scope (C8.fnScope st) fr = true) (e : st = .FunctionDef name (C8.fnArgs st) (C8.fnBody st) [] none [] (C8.fnScope st) none name pos := by rfl)
    (d0 : (C8.fnArgs st).defaults = [] := by rfl) (k0 : (C8.fnArgs st).kw_defaults = [] := by rfl) (an : annTrees (C8.fnArgs st) none X.env = [] := by rfl) (hi : X.N[i]? = some name := by rfl) (hx : Loc X.env.scope name := by first | exact Or.inl rfl | exact Or.inr rfl) (hf : X.fn name = true ∨ X.env.scope.names.lookup name = some .local := by first | exact .inl rfl | exact .inr rfl) :
    PS X st (tSt S Wd G W fix (.defn t i n js)) := s_defn c e hp hu hcel hnf TB hcd hn (ndef_free hb) d0 k0 an hi hx hf
end
end Ab
namespace Ab
open PySem L2 NdefX LamX C8
/-! Ab60: isinstance of an own class, where the answer is True -/
section
variable {X : Cx} {S : Sig} {G : Env0A} {W : Nat} {Z : L2.St → Nat → Hp → Prop}
theorem kg_trip {att : Nat → Str} {m : Nat} {Wd : WX} (c : Ctx X S att m Wd) (i j k : Nat) {x y z : Str} {p q s r : Pos} {n : Nat} (h1 : PG X (.Name x p) (tG X.K (.name i))) (h2 : PG X (.Name y q) (tG X.K (.name j))) (h3 : PG X (.Name z s) (tG X.K (.name k))) : PG X (.Tuple [.Name x p, .Name y q, .Name z s] n r) (tG X.K (.trip i j k)) := pg_tup c.calm (pgs_cons h1 (pgs_cons h2 (pgs_cons h3 pgs_nil))) rfl rfl
end
end Ab
namespace Ab
open PySem L2 NdefX LamX
open Classical
/-! Ab61: the law's end where defs make functions -/
theorem LibClo.mono {P : Program} {w : World} {K : PySem.W.Frag} {mg : Str → Option Value} {base : Heap} {S : Sig} {n : Nat} {g : Callee} {j k : Nat} (L : LibClo P w K mg base S n g j) (h : j ≤ k) : LibClo P w K mg base S n g k :=
  ⟨fun F0 h0 f => by obtain ⟨ps, q⟩ := L.ex F0 h0 f; exact ⟨ps, q.mono h⟩⟩
/-- a script, empty tables, and True wished -/
def spLawT (K : PySem.W.Frag) (cs : List (Addr × Addr)) : Sp := fun vs H Q _ => ∃ (a : Addr) (ns : List Int), vs = [.ref a] ∧ SqL K H a (ns.map V.int) ∧ ns.length ≤ 63 ∧ (∀ p ∈ cs, H p.2 = some (.tbl #[])) ∧ ∀ H', Q (.bl true) H'
theorem law_impT {P : Program} {w : World} {K : PySem.W.Frag} {mg : Str → Option Value} {base : Heap} {CX : CXT} {k : Nat} {f : Addr} {fd : FuncData} {ps : List Str} {S : Sig} {g : Callee} {n : Nat} {cs : List (Addr × Addr)} (hK : S.K = K) (hT : ∀ p ∈ S.tabs, ∃ q ∈ cs, q.2 = p.1) (F : FnOk P w K mg base CX k f fd ps (spT S [n] g)) (hm : ∀ ns : List Int, ns.length ≤ 63 → g [.scr ns, .tbs] = .ok (.bl true) [.tbs]) :
    FnOk P w K mg base CX k f fd ps (spLawT K cs) := F.imp fun vs H Q E h => by
  obtain ⟨a, ns, rfl, hS, hl, hC, q⟩ := h
  let F0 : Hp := fun x => if ∃ p ∈ S.tabs, p.1 = x then none else H x
  have f_in : ∀ {x}, (∃ p ∈ S.tabs, p.1 = x) → F0 x = none := fun {x} hx => if_pos hx
  have f_out : ∀ {x}, (¬ ∃ p ∈ S.tabs, p.1 = x) → F0 x = H x := fun {x} hx => if_neg hx
  have isT : ∀ {x}, (∃ p ∈ S.tabs, p.1 = x) → H x = some (.tbl #[]) := fun {x} ⟨p, hp, e⟩ => by
    obtain ⟨q, hq, e2⟩ := hT p hp
    rw [← e, ← e2]; exact hC q hq
  have hS2 : SqL K F0 a (ns.map V.int) := by
    rcases hS with e | e
    · refine .inl ?_
      rcases e with e | ⟨o, e⟩
      · exact .inl (by rw [f_out (fun z => by rw [isT z] at e; cases e)]; exact e)
      · exact .inr ⟨o, by rw [f_out (fun z => by rw [isT z] at e; cases e)]; exact e⟩
    · exact .inr e
  refine ⟨F0, [.scr ns, .tbs], fun x => ∃ p ∈ S.tabs, p.1 = x, ?_, fun x hx => f_in hx, fun x o e => ?_, ?_⟩
  · simp only [List.cons_append, List.nil_append, Reps, Rep]
    refine ⟨.ref a, [.non], Emp, _, rfl, (emp_uni _).symm, emp_dis, ⟨rfl, a, rfl, by rw [hK]; exact hS2⟩, .non, [], _, Emp, rfl, (uni_emp _).symm, dis_emp, ⟨rfl, rfl, fun p hp => ⟨#[], isT ⟨p, hp, rfl⟩, True.intro, fun pos cv hc => ?_⟩⟩, rfl, rfl⟩
    have z : codeAmong pos [] = some cv := hc
    simp [codeAmong] at z
  · by_cases hx : ∃ p ∈ S.tabs, p.1 = x
    · rw [f_in hx] at e; cases e
    · rw [f_out hx] at e; exact e
  · rw [hm ns hl]
    intro v ws F' H' Pd Pm sv r rm di fr sub ex
    rw [(rep_bl.mp r).1]
    exact q H'
end Ab
namespace Ab
open PySem L2 NdefX LamX C8
/-! Ab62: len(set(l)) of a list of ints; len of a dict -/
theorem sset_len {l : List Int} {is : List Int} (nd : l.Nodup) (h : ∀ k, k ∈ is ↔ k ∈ l) : l.length = (sset is).length := by
  have nd2 : (sset is).Nodup := (sset_asc is).imp fun h => by omega
  exact ((List.perm_ext_iff_of_nodup nd nd2).mpr fun k => by rw [sset_mem, h]).length_eq
section
variable {X : Cx} {S : Sig} {G : Env0A} {W : Nat} {Z : L2.St → Nat → Hp → Prop}
def tLSet (K : PySem.W.Frag) (ta : TE) : TE := fun σ H Q => ta σ H fun x H1 => ∃ (l : Addr) (ns : List Int), x = .ref l ∧ SqL K H1 l (ns.map V.int) ∧ ns.length < 4000 ∧ Q (.int (sset ns).length) H1
theorem pe_lset {a : Expr} {ta : TE} {p p2 q pos : Pos} (hc : X.calm = true) (hg : Gl X "len") (hm : X.mg "len" = none) (hg2 : Gl X "set") (hm2 : X.mg "set" = none) (ha : PE X a ta) (na : noStar a = true) : PE X (.Call (.Name "len" p) [.Call (.Name "set" p2) [a] [] q] [] pos) (tLSet X.K ta) := by
  refine ⟨fun pins s σ H Q I h => ?_⟩
  refine PyProof.Rows.Call_ (ld_blt I hg hm boot_len ?_)
  refine PyProof.Rows.callWith_builtin1 (PyProof.Rows.args_cons ?_ rfl) rfl rfl
  refine PyProof.Rows.Call_ (ld_blt I hg2 hm2 (show bootBuiltins "set" = some (.type "set") by decide +kernel) ?_)
  refine PyProof.Rows.callWith_type1 (PyProof.Rows.args_cons (thn (ha.run pins s σ H _ I h) fun v s1 ⟨x, H1, I1, r1, q1⟩ => PyProof.Rows.args_nil ?_) (star_cons na)) (star_cons na) rfl
  obtain ⟨l, ns, rfl, hq, hl, q1⟩ := q1
  cases r1
  obtain ⟨its, r, pl, hz⟩ := I1.list hq
  refine call_set_lstI ns (I1.ok.hd hc) pl.isList (by simpa using r.ints) (by unfold scanBound; omega) fun h' tk c hS hcl hk => ?_
  refine PyProof.Rows.args_nil ?_
  obtain ⟨o, es, ep, t, ho, hex, hd, _, nd, mem, _, hf, hn, _⟩ := hS
  have e1 : es.size = (sset ns).length := by
    have := sset_len (l := es.toList.map keyOf) (is := ns) nd fun k => by rw [← mem k]; simp
    simpa using this
  have I2 : Inv X pins σ H1 { s1 with heap := h', toks := tk } := I1.kept fun b o e => hk b o e
  exact call_len_set ho hex hd hf (by rw [hn]; omega) ⟨.int (sset ns).length, H1, I2.tok _, ⟨_, by rw [e1]⟩, q1⟩
theorem k_lset {att : Nat → Str} {k : Nat} {Wd : WX} (c : Ctx X S att k Wd) {ea : ME} {x : Expr} {p1 p2 q1 q2 : Pos} {v : Bool} (hm : X.mg "len" = none) (hm2 : X.mg "set" = none) (ha : PE X x (tE S Z G W true ea)) (hg : Gl X "len" := by rfl) (hg2 : Gl X "set" := by rfl) (hst : noStar x = true := by rfl) :
    PE X (.Call (.Name "len" p1) [.Call (.Name "set" p2) [x] [] q2] [] q1) (tE S Z G W v (.bi1 .lset ea)) := by
  refine (pe_lset c.calm hg hm hg2 hm2 ha hst).weak fun σ H Q h => ?_
  refine tA_one (ta := atE true ea) h fun F P a d1 a1 v1 F1 H1 P1 Pa1 sr o1 out => ?_
  obtain ⟨d, e, q⟩ := out.of
  obtain ⟨F3, Q1, r1, sr3, ex⟩ := single o1
  simp only [bi1] at e
  split at e
  case h_2 => cases e
  rename_i m ds hds
  simp only [Option.bind_eq_some_iff] at e
  obtain ⟨is, e2, e⟩ := e
  split at e
  case isFalse => cases e
  rename_i hl
  cases e
  have eds := intsOf_eq e2
  subst eds
  rw [hds] at r1
  simp only [Rep] at r1
  obtain ⟨p, vs, rfl, h⟩ := r1
  have hq : SqL X.K H1 p (is.map V.int) := by
    split at h
    · obtain ⟨ea, _, P', _, _, h⟩ := h
      rw [(Reps.ints h).1] at ea
      exact SqL.of ea
    · obtain ⟨_, ea, h⟩ := h
      rw [(Reps.ints h).1] at ea
      exact SqL.of (sr3.sub _ _ ea)
  refine ⟨p, is, rfl, hq, hl, ?_⟩
  exact q _ F3 H1 Emp Pa1 (.flat sr3 ex (fun h => o1.same (by simpa [atE, pureE] using h)) rfl (rep_int.mpr ⟨rfl, rfl⟩))
theorem pair_len {α β : Type} {R : α → β → Prop} {xs : List α} {ys : List β} (h : Paired R xs ys) : xs.length = ys.length := by
  induction h with
  | nil => rfl
  | cons _ _ ih => simp [ih]
theorem raw_at {H : Hp} {s : Shared} {pins : List (Addr × Obj)} {σ : L2.St} {p : Addr} {t : Nat} {bs vs : List V} {ks : List D} (I : Inv X pins σ H s) (hrd : Rd H p (dO p t bs ks vs)) (hl : vs.length = ks.length) : ∃ es ep, s.heap.DictRaw p es ep ∧ es.size = ks.length ∧ ks.length ≤ sizeLine ∧ (p == sysModules) = false ∧ s.TypeIs (.ref p) "dict" := by
  have ok : ObjOk X.prog X.w H s.heap p (dO p t bs ks vs) := L2.rd_of I.hok hrd
  unfold dO at ok hrd
  split at ok
  · obtain ⟨n, sm, kv, hkv, hd⟩ := ok
    obtain ⟨es, ep, h1, h2, _⟩ := Heap.DictOf.raw hd
    have e1 : kv.length = ks.length := by
      rw [← hkv.length]; simp [hl]
    refine ⟨es, ep, h1, by rw [h2, e1], by simpa [hl] using n, sm, ?_⟩
    obtain ⟨o, q1, q2, _⟩ := h1
    exact ⟨o, q1, q2.1⟩
  · split at ok
    · obtain ⟨n, sm, xs, hp, o, es, ep, h1, h2, h3, h4, _⟩ := ok
      have e1 : xs.length = ks.length := by
        rw [← pair_len hp]; simp [hl]
      have e2 : es.size = xs.length := by
        have := congrArg List.length h4; simpa using this
      exact ⟨es, ep, ⟨o, h1, h2, h3⟩, by rw [e2, e1], by simpa [hl] using n, sm, ⟨o, h1, h2.1⟩⟩
    · obtain ⟨⟨n, sm, _, xs, r, eb, o, es, ep, h1, h2, h3, h4, _⟩, _, _⟩ := ok
      have e1 : xs.length = ks.length := by
        rw [← pair_len r]; simp [hl]
      have e2 : es.size = xs.length := by
        have := congrArg List.length (h4 X.w); simpa using this
      exact ⟨es, ep, ⟨o, h1, h2, h3⟩, by rw [e2, e1], by simpa [hl] using n, sm, ⟨o, h1, h2.1⟩⟩
theorem lend_ok : CallR X (.builtin "len") (rC1 S (bi1 .lend)) := by
  intro pins s σ H xs us Q I r h
  obtain ⟨x, F, d1, d, P1, rfl, hs, r1, hb, q⟩ := h
  cases d1 <;> simp only [bi1, Option.some.injEq, reduceCtorEq] at hb
  rename_i m t ks ds
  subst hb
  obtain ⟨p, vs, P', bs, rfl, hk, hl, hrd, rv, _, _⟩ := r1.dic_at hs
  rw [Vals.ref1 r]
  obtain ⟨es, ep, h1, h2, h3, sm, ty⟩ := raw_at I hrd (by rw [Reps.len rv, hl])
  have ze : (sizeLine : Nat) = 16777216 := sizeLine_eq
  refine PyProof.Rows.call_len_slot (n := es.size) ty PySem.F.slot_dict_len (fun Q' hq => call_len_raw sm h1 hq) (by omega) (by rw [h2]; omega) ?_
  have n := New.int (S := S) (i := (es.size : Int)) hs
  rw [h2] at n ⊢
  exact ⟨.int ks.length, H, I.tok _, ⟨_, rfl⟩, q _ _ _ _ n⟩
theorem k_lend {att : Nat → Str} {k : Nat} {Wd : WX} (c : Ctx X S att k Wd) {ea : ME} {x : Expr} {p pos : Pos} {v : Bool} (hm : X.mg "len" = none) (ha : PE X x (tE S Z G W true ea)) (hg : Gl X "len" := by rfl) (hst : noStar x = true := by rfl) : PE X (.Call (.Name "len" p) [x] [] pos) (tE S Z G W v (.bi1 .lend ea)) :=
  c_callB1 lend_ok hg hm (by decide +kernel) (by decide) (by decide) (star_cons hst) ha
end
end Ab
namespace Ab
open PySem L2
open Classical
/-! Ab63: a store into an item of an item, where the index changes the state: the slot is hidden meanwhile -/
variable {S : Sig} {Wd : WX} {Z : L2.St → Nat → Hp → Prop} {fix : List Nat} {F F' H H' : Hp} {P : Fp} {σ : L2.St} {a a' : SA}
section
variable {X : Cx} {G : Env0A} {W : Nat} {att : Nat → Str}
variable {k : Nat}
end
end Ab
namespace Ab
open PySem L2
def f_l_draws : MF := -- 5
  ⟨2, 9, [], (.cons (.asg 2 (.bi1 .list (.slot 0))) (.cons (.ite (.cmp .eq (.bi1 .len (.slot 2)) (.int 0)) (.cons (.asg 2 (.lst (.cons (.int 7) .nil))) .nil) .nil) (.cons (.asg 3 (.lst .nil)) (.cons (.asg 4 (.int 12345)) (.cons (.forr (.name 5) (.r1 (.slot 1)) (.cons (.asg 6 (.bin .mod (.slot 5) (.bi1 .len (.slot 2)))) (.cons (.asg 7 (.sub (.slot 2) (.slot 6))) (.cons (.asg 4 (.bin .mod (.bi1 .int (.bin .add (.bin .add (.bin .add (.bin .mul (.slot 4) (.int 48271)) (.bin .mul (.bin .mod (.bi1 .int (.slot 7)) (.int 1000003)) (.int 69621))) (.bin .mul (.slot 5) (.int 7919))) (.int 11))) (.int 2147483647))) (.cons (.asg 8 (.bin .mod (.bi1 .int (.bin .add (.bin .add (.bin .mul (.slot 4) (.slot 4)) (.bin .mul (.int 31) (.slot 4))) (.slot 5))) (.int 1000003))) (.cons (.ite (.cmp .ge (.slot 7) (.bin .pow (.int 10) (.int 18))) (.cons (.append (.slot 3) (.bin .mod (.bi1 .int (.slot 7)) (.int 1000))) (.cons (.setI (.slot 2) (.slot 6) (.bin .fdiv (.slot 7) (.int 1000))) .nil)) (.cons (.append (.slot 3) (.bin .mod (.bi1 .int (.slot 8)) (.int 1000))) .nil)) .nil)))))) (.cons (.reverse (.slot 3)) (.cons (.ret (.slot 3)) .nil)))))))⟩
def f_l_take : MF := -- 6
  ⟨2, 2, [0], (.cons (.ite (.cmp .eq (.bi1 .len (.slot 0)) (.int 0)) (.cons (.ret (.int 0)) .nil) .nil) (.cons (.ret (.bin .mod (.bi1 .int (.pop 0)) (.slot 1))) .nil))⟩
def f_l_word : MF := -- 14
  ⟨3, 4, [0], (.cons (.ret (.bi1 .tuple (.comp 3 (.call 6 (.cons (.mv 0) (.cons (.rd (.slot 1)) .nil))) (.r1 (.call 6 (.cons (.mv 0) (.cons (.rd (.bin .add (.slot 2) (.int 1))) .nil)))) .none))) .nil)⟩
def f_ascends : MF := -- 56
  ⟨2, 3, [], (.cons (.forr (.name 2) (.r1 (.bi1 .len (.slot 0))) (.cons (.ite (.or (.cmp .lt (.sub (.slot 0) (.slot 2)) (.int 0)) (.or (.cmp .ge (.sub (.slot 0) (.slot 2)) (.slot 1)) (.and (.cmp .gt (.slot 2) (.int 0)) (.cmp .le (.sub (.slot 0) (.slot 2)) (.sub (.slot 0) (.bin .sub (.slot 2) (.int 1))))))) (.cons (.ret (.bl false)) .nil) .nil) .nil)) (.cons (.ret (.bl true)) .nil))⟩
def f_right_row : MF := -- 57
  ⟨3, 4, [], (.cons (.ite (.cmp .ne (.bi1 .len (.slot 0)) (.slot 1)) (.cons (.ret (.bl false)) .nil) .nil) (.cons (.forr (.name 3) (.of (.slot 0)) (.cons (.ite (.or (.cmp .lt (.slot 3) (.int 0)) (.cmp .ge (.slot 3) (.slot 2))) (.cons (.ret (.bl false)) .nil) .nil) .nil)) (.cons (.ret (.bl true)) .nil)))⟩
def f_Automaton_init : MF := -- 58
  ⟨5, 7, [0], (.cons (.asg 5 (.and2 (.cmp .ge (.slot 1) (.int 1)) (.and2 (.chain .le .lt (.int 0) (.slot 2) (.bi1 .len (.slot 4))) (.call 56 (.cons (.rd (.slot 3)) (.cons (.rd (.bi1 .len (.slot 4))) .nil)))))) (.cons (.forr (.name 6) (.of (.slot 4)) (.cons (.asg 5 (.and2 (.slot 5) (.call 57 (.cons (.rd (.slot 6)) (.cons (.rd (.slot 1)) (.cons (.rd (.bi1 .len (.slot 4))) .nil)))))) .nil)) (.cons (.ite (.not (.val (.slot 5))) (.cons (.raise 1) .nil) .nil) (.cons (.setF 0 1 (.slot 1)) (.cons (.setF 0 2 (.slot 2)) (.cons (.setF 0 3 (.bi1 .tuple (.slot 3))) (.cons (.setF 0 4 (.bi1 .tuple (.comp 6 (.bi1 .tuple (.slot 6)) (.of (.slot 4)) .none))) .nil)))))))⟩
def f_l_run : MF := -- 61
  ⟨2, 4, [], (.cons (.asg 2 (.sub (.slot 0) (.int 0))) (.cons (.forr (.name 3) (.of (.slot 1)) (.cons (.asg 2 (.sub (.sub (.sub (.slot 0) (.int 2)) (.slot 2)) (.slot 3))) .nil)) (.cons (.ret (.slot 2)) .nil)))⟩
def f_l_any_automaton : MF := -- 63
  ⟨3, 8, [0], (.cons (.asg 3 (.bin .add (.int 1) (.call 6 (.cons (.mv 0) (.cons (.rd (.slot 2)) .nil))))) (.cons (.asg 4 (.comp 6 (.comp 5 (.call 6 (.cons (.mv 0) (.cons (.rd (.slot 3)) .nil))) (.r1 (.slot 1)) .none) (.r1 (.slot 3)) .none)) (.cons (.asg 7 (.comp 6 (.slot 6) (.r1 (.slot 3)) (.some (.cmp .eq (.call 6 (.cons (.mv 0) (.cons (.rd (.int 2)) .nil))) (.int 0))))) (.cons (.ret (.tup (.cons (.call 6 (.cons (.mv 0) (.cons (.rd (.slot 3)) .nil))) (.cons (.slot 7) (.cons (.slot 4) .nil))))) .nil))))⟩
def f_l_smallest : MF := -- 64
  ⟨1, 17, [], (.cons (.asgT (.trip 1 2 3) (.slot 0)) (.cons (.asg 4 (.comp 5 (.bi1 .int (.cmp .inn (.slot 5) (.slot 2))) (.r1 (.bi1 .len (.slot 3))) .none)) (.cons (.forr (.name 6) (.r1 (.bi1 .len (.slot 3))) (.cons (.asg 7 (.comp 5 (.tup (.cons (.sub (.slot 4) (.slot 5)) (.cons (.bi1 .tuple (.comp 8 (.sub (.slot 4) (.slot 8)) (.of (.sub (.slot 3) (.slot 5))) .none)) .nil))) (.r1 (.bi1 .len (.slot 3))) .none)) (.cons (.asg 9 (.lst .nil)) (.cons (.forr (.name 10) (.of (.slot 7)) (.cons (.ite (.cmp .nin (.slot 10) (.slot 9)) (.cons (.append (.slot 9) (.slot 10)) .nil) .nil) .nil)) (.cons (.asg 4 (.comp 10 (.bi2 .idx (.slot 9) (.slot 10)) (.of (.slot 7)) .none)) .nil))))) (.cons (.asg 11 (.lst (.cons (.sub (.slot 4) (.slot 1)) .nil))) (.cons (.asg 12 (.lst .nil)) (.cons (.forr (.name 13) (.r1 (.bi1 .len (.slot 3))) (.cons (.ite (.cmp .lt (.slot 13) (.bi1 .len (.slot 11))) (.cons (.asg 14 (.bi2 .idx (.slot 4) (.sub (.slot 11) (.slot 13)))) (.cons (.asg 15 (.lst .nil)) (.cons (.forr (.name 8) (.of (.sub (.slot 3) (.slot 14))) (.cons (.ite (.cmp .nin (.sub (.slot 4) (.slot 8)) (.slot 11)) (.cons (.append (.slot 11) (.sub (.slot 4) (.slot 8))) .nil) .nil) (.cons (.append (.slot 15) (.bi2 .idx (.slot 11) (.sub (.slot 4) (.slot 8)))) .nil))) (.cons (.append (.slot 12) (.bi1 .tuple (.slot 15))) .nil)))) .nil) .nil)) (.cons (.asg 16 (.comp 5 (.slot 5) (.r1 (.bi1 .len (.slot 11))) (.some (.cmp .inn (.bi2 .idx (.slot 4) (.sub (.slot 11) (.slot 5))) (.slot 2))))) (.cons (.ret (.tup (.cons (.int 0) (.cons (.bi1 .tuple (.slot 16)) (.cons (.bi1 .tuple (.slot 12)) .nil))))) .nil))))))))⟩
def f_l_made : MF := -- 66
  ⟨2, 3, [], (.cons (.ret (.make 1 58 (.cons (.rd (.bi1 .len (.slot 0))) (.cons (.rd (.sub (.slot 1) (.int 0))) (.cons (.rd (.bi1 .list (.sub (.slot 1) (.int 1)))) (.cons (.rd (.comp 2 (.bi1 .list (.slot 2)) (.of (.sub (.slot 1) (.int 2))) .none)) .nil)))))) .nil)⟩
def f_l_rests : MF := -- 153
  ⟨1, 5, [], (.cons (.asg 1 (.slot 0)) (.cons (.forr (.name 2) (.r1 (.bin .add (.bi1 .len (.slot 0)) (.int 1))) (.cons (.asg 3 (.bi1 .tuple (.comp 4 (.sub (.slot 0) (.slot 4)) (.of (.slot 1)) .none))) (.cons (.ite (.cmp .eq (.slot 3) (.slot 1)) (.cons (.ret (.bl true)) .nil) .nil) (.cons (.asg 1 (.slot 3)) .nil)))) (.cons (.ret (.bl false)) .nil)))⟩
def f_action : MF := -- 247
  ⟨2, 5, [], (.cons (.asg 2 (.bi1 .lrng (.bi1 .len (.fld (.slot 0) 4)))) (.cons (.forr (.name 3) (.of (.slot 1)) (.cons (.asg 2 (.comp 4 (.sub (.sub (.fld (.slot 0) 4) (.slot 4)) (.slot 3)) (.of (.slot 2)) .none)) .nil)) (.cons (.ret (.bi1 .tuple (.slot 2))) .nil)))⟩
def f_classes_of : MF := -- 280
  ⟨1, 9, [], (.cons (.asg 1 (.fld (.slot 0) 3)) (.cons (.asg 2 (.comp 3 (.bi1 .int (.cmp .inn (.slot 3) (.slot 1))) (.r1 (.bi1 .len (.fld (.slot 0) 4))) .none)) (.cons (.asg 4 (.int 0)) (.cons (.whil (.cmp .ne (.slot 4) (.bi1 .lset (.slot 2))) (.cons (.asg 4 (.bi1 .lset (.slot 2))) (.cons (.asg 5 (.lst .nil)) (.cons (.forr (.name 3) (.r1 (.bi1 .len (.fld (.slot 0) 4))) (.cons (.append (.slot 5) (.tup (.cons (.sub (.slot 2) (.slot 3)) (.cons (.bi1 .tuple (.comp 6 (.sub (.slot 2) (.slot 6)) (.of (.sub (.fld (.slot 0) 4) (.slot 3))) .none)) .nil)))) .nil)) (.cons (.asg 7 (.dnew 2)) (.cons (.forr (.name 8) (.of (.slot 5)) (.cons (.ite (.cmp .nin (.slot 8) (.slot 7)) (.cons (.dset 7 (.slot 8) (.bi1 .lend (.slot 7))) .nil) .nil) .nil)) (.cons (.asg 2 (.comp 8 (.dget (.slot 7) (.slot 8)) (.of (.slot 5)) .none)) .nil))))))) (.cons (.ret (.slot 2)) .nil)))))⟩
def f_least_step : MF := -- 281
  ⟨5, 5, [], (.cons (.ret (.sub (.slot 3) (.sub (.sub (.fld (.slot 2) 4) (.dget (.slot 4) (.slot 0))) (.slot 1)))) .nil)⟩
def f_least_is_final : MF := -- 282
  ⟨3, 3, [], (.cons (.ret (.cmp .inn (.dget (.slot 2) (.slot 0)) (.fld (.slot 1) 3))) .nil)⟩
def f_explored_0 : MF := -- 283
  ⟨5, 14, [4], (.cons (.asg 5 (.lst (.cons (.slot 1) .nil))) (.cons (.asg 6 (.dlit 0 (.slot 1) (.int 0))) (.cons (.asg 7 (.lst .nil)) (.cons (.asg 8 (.int 0)) (.cons (.whil (.cmp .lt (.slot 8) (.bi1 .len (.slot 5))) (.cons (.asg 9 (.lst .nil)) (.cons (.forr (.name 10) (.r1 (.slot 0)) (.cons (.asg 11 (.callc 2 (.cons (.rd (.sub (.slot 5) (.slot 8))) (.cons (.rd (.slot 10)) .nil)))) (.cons (.ite (.cmp .nin (.slot 11) (.slot 6)) (.cons (.dset 6 (.slot 11) (.bi1 .len (.slot 5))) (.cons (.append (.slot 5) (.slot 11)) .nil)) .nil) (.cons (.append (.slot 9) (.dget (.slot 6) (.slot 11))) .nil)))) (.cons (.append (.slot 7) (.slot 9)) (.cons (.aug 8 .add (.int 1)) .nil))))) (.cons (.asg 12 (.comp 13 (.slot 13) (.r1 (.bi1 .len (.slot 5))) (.some (.val (.callc 3 (.cons (.rd (.sub (.slot 5) (.slot 13))) .nil)))))) (.cons (.ret (.make 1 58 (.cons (.rd (.slot 0)) (.cons (.rd (.int 0)) (.cons (.rd (.slot 12)) (.cons (.bor 7) .nil)))))) .nil)))))))⟩
def f_least : MF := -- 284
  ⟨2, 7, [1], (.cons (.asg 2 (.call 280 (.cons (.rd (.slot 0)) .nil))) (.cons (.asg 3 (.dnew 0)) (.cons (.forr (.name 4) (.r1 (.bi1 .len (.slot 2))) (.cons (.ite (.cmp .nin (.sub (.slot 2) (.slot 4)) (.slot 3)) (.cons (.dset 3 (.sub (.slot 2) (.slot 4)) (.slot 4)) .nil) .nil) .nil)) (.cons (.defn 1 5 281 [0, 2, 3]) (.cons (.defn 1 6 282 [0, 3]) (.cons (.ret (.hcall 283 (.cons (.rd (.fld (.slot 0) 1)) (.cons (.rd (.sub (.slot 2) (.fld (.slot 0) 2))) .nil)) 1 [(5, 281, [0, 2, 3]), (6, 282, [0, 3])])) .nil))))))⟩
def f_actions : MF := -- 325
  ⟨2, 11, [1], (.cons (.asg 2 (.call 284 (.cons (.rd (.slot 0)) (.cons (.tok 1) .nil)))) (.cons (.asg 3 (.bi1 .trng (.bi1 .len (.fld (.slot 2) 4)))) (.cons (.asg 4 (.dlit 2 (.slot 3) (.tup .nil))) (.cons (.asg 5 (.lst (.cons (.slot 3) .nil))) (.cons (.asg 6 (.int 0)) (.cons (.whil (.cmp .lt (.slot 6) (.bi1 .len (.slot 5))) (.cons (.forr (.name 7) (.r1 (.fld (.slot 2) 1)) (.cons (.asg 8 (.bi1 .tuple (.comp 9 (.sub (.sub (.fld (.slot 2) 4) (.slot 9)) (.slot 7)) (.of (.sub (.slot 5) (.slot 6))) .none))) (.cons (.ite (.cmp .nin (.slot 8) (.slot 4)) (.cons (.ite (.cmp .eq (.bi1 .len (.slot 5)) (.glob "MOST_ACTIONS" 400)) (.cons (.raise 2) .nil) .nil) (.cons (.dset 4 (.slot 8) (.bin .add (.dget (.slot 4) (.sub (.slot 5) (.slot 6))) (.tup (.cons (.slot 7) .nil)))) (.cons (.append (.slot 5) (.slot 8)) .nil))) .nil) .nil))) (.cons (.aug 6 .add (.int 1)) .nil))) (.cons (.ret (.comp 10 (.tup (.cons (.dget (.slot 4) (.slot 10)) (.cons (.slot 10) .nil))) (.of (.slot 5)) .none)) .nil)))))))⟩
def f_settles : MF := -- 326
  ⟨1, 4, [], (.cons (.asg 1 (.dnew 2)) (.cons (.asg 2 (.slot 0)) (.cons (.whil (.cmp .nin (.slot 2) (.slot 1)) (.cons (.dset 1 (.slot 2) (.bl true)) (.cons (.asg 2 (.bi1 .tuple (.comp 3 (.sub (.slot 0) (.slot 3)) (.of (.slot 2)) .none))) .nil))) (.cons (.ret (.cmp .eq (.bi1 .tuple (.comp 3 (.sub (.slot 0) (.slot 3)) (.of (.slot 2)) .none)) (.slot 2))) .nil))))⟩
def f_unsettled_word : MF := -- 327
  ⟨2, 4, [1], (.cons (.forr (.pair 2 3) (.of (.call 325 (.cons (.rd (.slot 0)) (.cons (.tok 1) .nil)))) (.cons (.ite (.not (.val (.call 326 (.cons (.rd (.slot 3)) .nil)))) (.cons (.ret (.slot 2)) .nil) .nil) .nil)) (.cons (.ret .non) .nil))⟩
def f_l_outcomeqqqqqqq : MF := -- 328
  ⟨2, 2, [1], (.cons (.tryRet (.call 325 (.cons (.rd (.slot 0)) (.cons (.tok 1) .nil))) 2 (.cons (.ret .non) .nil)) .nil)⟩
def f_l_table : MF := -- 329
  ⟨1, 11, [], (.cons (.asgT (.trip 1 2 3) (.call 64 (.cons (.rd (.slot 0)) .nil))) (.cons (.asg 4 (.bi1 .trng (.bi1 .len (.slot 3)))) (.cons (.asg 5 (.lst (.cons (.tup (.cons (.tup .nil) (.cons (.slot 4) .nil))) .nil))) (.cons (.asg 6 (.dlit 2 (.slot 4) (.bl true))) (.cons (.forr (.name 7) (.r1 (.int 401)) (.cons (.ite (.and (.cmp .lt (.slot 7) (.bi1 .len (.slot 5))) (.cmp .le (.bi1 .len (.slot 5)) (.int 400))) (.cons (.forr (.name 8) (.r1 (.bi1 .len (.sub (.slot 3) (.int 0)))) (.cons (.asg 9 (.bi1 .tuple (.comp 10 (.sub (.sub (.slot 3) (.slot 10)) (.slot 8)) (.of (.sub (.sub (.slot 5) (.slot 7)) (.int 1))) .none))) (.cons (.ite (.cmp .nin (.slot 9) (.slot 6)) (.cons (.dset 6 (.slot 9) (.bl true)) (.cons (.append (.slot 5) (.tup (.cons (.bin .add (.sub (.sub (.slot 5) (.slot 7)) (.int 0)) (.tup (.cons (.slot 8) .nil))) (.cons (.slot 9) .nil)))) .nil)) .nil) .nil))) .nil) .nil) .nil)) (.cons (.ret (.slot 5)) .nil))))))⟩
def f_law_k30 : MF := -- 330
  ⟨2, 13, [1], (.cons (.asg 2 (.call 5 (.cons (.rd (.slot 0)) (.cons (.rd (.int 80)) .nil)))) (.cons (.asg 3 (.bin .add (.int 1) (.call 6 (.cons (.mv 2) (.cons (.rd (.int 3)) .nil))))) (.cons (.asg 4 (.call 63 (.cons (.mv 2) (.cons (.rd (.slot 3)) (.cons (.rd (.int 4)) .nil))))) (.cons (.asg 5 (.call 66 (.cons (.rd (.bin .mul (.lst (.cons (.tup (.cons (.int 0) .nil)) .nil)) (.slot 3))) (.cons (.rd (.slot 4)) .nil)))) (.cons (.asg 6 (.call 14 (.cons (.mv 2) (.cons (.rd (.slot 3)) (.cons (.rd (.int 6)) .nil))))) (.cons (.asg 7 (.bi1 .tuple (.comp 8 (.call 61 (.cons (.rd (.tup (.cons (.slot 8) (.cons (.lst .nil) (.cons (.sub (.slot 4) (.int 2)) .nil))))) (.cons (.rd (.slot 6)) .nil))) (.r1 (.bi1 .len (.sub (.slot 4) (.int 2)))) .none))) (.cons (.ite (.cmp .ne (.call 247 (.cons (.rd (.slot 5)) (.cons (.rd (.bi1 .list (.slot 6))) .nil))) (.slot 7)) (.cons (.ret (.bl false)) .nil) .nil) (.cons (.asg 9 (.call 329 (.cons (.rd (.slot 4)) .nil))) (.cons (.asg 10 (.call 328 (.cons (.rd (.slot 5)) (.cons (.tok 1) .nil)))) (.cons (.ite (.cmp .gt (.bi1 .len (.slot 9)) (.int 400)) (.cons (.ret (.isn false (.slot 10))) .nil) .nil) (.cons (.ite (.or (.not (.val (.isi (.slot 10) .list))) (.cmp .ne (.slot 10) (.slot 9))) (.cons (.ret (.bl false)) .nil) .nil) (.cons (.asg 11 (.comp 12 (.sub (.slot 12) (.int 0)) (.of (.slot 9)) (.some (.not (.val (.call 153 (.cons (.rd (.sub (.slot 12) (.int 1))) .nil))))))) (.cons (.ite (.cmp .eq (.bi1 .len (.slot 11)) (.int 0)) (.cons (.ret (.isn false (.call 327 (.cons (.rd (.slot 5)) (.cons (.tok 1) .nil))))) .nil) .nil) (.cons (.ret (.cmp .eq (.call 327 (.cons (.rd (.slot 5)) (.cons (.tok 1) .nil))) (.sub (.slot 11) (.int 0)))) .nil))))))))))))))⟩
end Ab
namespace Ab
open PySem L2
section
def b_l_draws_1 : MSs := (.cons (.asg 6 (.bin .mod (.slot 5) (.bi1 .len (.slot 2)))) (.cons (.asg 7 (.sub (.slot 2) (.slot 6))) (.cons (.asg 4 (.bin .mod (.bi1 .int (.bin .add (.bin .add (.bin .add (.bin .mul (.slot 4) (.int 48271)) (.bin .mul (.bin .mod (.bi1 .int (.slot 7)) (.int 1000003)) (.int 69621))) (.bin .mul (.slot 5) (.int 7919))) (.int 11))) (.int 2147483647))) (.cons (.asg 8 (.bin .mod (.bi1 .int (.bin .add (.bin .add (.bin .mul (.slot 4) (.slot 4)) (.bin .mul (.int 31) (.slot 4))) (.slot 5))) (.int 1000003))) (.cons (.ite (.cmp .ge (.slot 7) (.bin .pow (.int 10) (.int 18))) (.cons (.append (.slot 3) (.bin .mod (.bi1 .int (.slot 7)) (.int 1000))) (.cons (.setI (.slot 2) (.slot 6) (.bin .fdiv (.slot 7) (.int 1000))) .nil)) (.cons (.append (.slot 3) (.bin .mod (.bi1 .int (.slot 8)) (.int 1000))) .nil)) .nil)))))
def g_l_draws : MF := ⟨2, 9, [], (.cons (.asg 2 (.bi1 .list (.slot 0))) (.cons (.ite (.cmp .eq (.bi1 .len (.slot 2)) (.int 0)) (.cons (.asg 2 (.lst (.cons (.int 7) .nil))) .nil) .nil) (.cons (.asg 3 (.lst .nil)) (.cons (.asg 4 (.int 12345)) (.cons (.forr (.name 5) (.r1 (.slot 1)) b_l_draws_1) (.cons (.reverse (.slot 3)) (.cons (.ret (.slot 3)) .nil)))))))⟩
theorem f_l_draws_eq : f_l_draws = g_l_draws := rfl
def e_l_word_1 : ME := (.call 6 (.cons (.mv 0) (.cons (.rd (.slot 1)) .nil)))
def g_l_word : MF := ⟨3, 4, [0], (.cons (.ret (.bi1 .tuple (.comp 3 e_l_word_1 (.r1 (.call 6 (.cons (.mv 0) (.cons (.rd (.bin .add (.slot 2) (.int 1))) .nil)))) .none))) .nil)⟩
theorem f_l_word_eq : f_l_word = g_l_word := rfl
def b_ascends_1 : MSs := (.cons (.ite (.or (.cmp .lt (.sub (.slot 0) (.slot 2)) (.int 0)) (.or (.cmp .ge (.sub (.slot 0) (.slot 2)) (.slot 1)) (.and (.cmp .gt (.slot 2) (.int 0)) (.cmp .le (.sub (.slot 0) (.slot 2)) (.sub (.slot 0) (.bin .sub (.slot 2) (.int 1))))))) (.cons (.ret (.bl false)) .nil) .nil) .nil)
def g_ascends : MF := ⟨2, 3, [], (.cons (.forr (.name 2) (.r1 (.bi1 .len (.slot 0))) b_ascends_1) (.cons (.ret (.bl true)) .nil))⟩
theorem f_ascends_eq : f_ascends = g_ascends := rfl
def b_right_row_1 : MSs := (.cons (.ite (.or (.cmp .lt (.slot 3) (.int 0)) (.cmp .ge (.slot 3) (.slot 2))) (.cons (.ret (.bl false)) .nil) .nil) .nil)
def g_right_row : MF := ⟨3, 4, [], (.cons (.ite (.cmp .ne (.bi1 .len (.slot 0)) (.slot 1)) (.cons (.ret (.bl false)) .nil) .nil) (.cons (.forr (.name 3) (.of (.slot 0)) b_right_row_1) (.cons (.ret (.bl true)) .nil)))⟩
theorem f_right_row_eq : f_right_row = g_right_row := rfl
def b_Automaton_init_1 : MSs := (.cons (.asg 5 (.and2 (.slot 5) (.call 57 (.cons (.rd (.slot 6)) (.cons (.rd (.slot 1)) (.cons (.rd (.bi1 .len (.slot 4))) .nil)))))) .nil)
def e_Automaton_init_2 : ME := (.bi1 .tuple (.slot 6))
def g_Automaton_init : MF := ⟨5, 7, [0], (.cons (.asg 5 (.and2 (.cmp .ge (.slot 1) (.int 1)) (.and2 (.chain .le .lt (.int 0) (.slot 2) (.bi1 .len (.slot 4))) (.call 56 (.cons (.rd (.slot 3)) (.cons (.rd (.bi1 .len (.slot 4))) .nil)))))) (.cons (.forr (.name 6) (.of (.slot 4)) b_Automaton_init_1) (.cons (.ite (.not (.val (.slot 5))) (.cons (.raise 1) .nil) .nil) (.cons (.setF 0 1 (.slot 1)) (.cons (.setF 0 2 (.slot 2)) (.cons (.setF 0 3 (.bi1 .tuple (.slot 3))) (.cons (.setF 0 4 (.bi1 .tuple (.comp 6 e_Automaton_init_2 (.of (.slot 4)) .none))) .nil)))))))⟩
theorem f_Automaton_init_eq : f_Automaton_init = g_Automaton_init := rfl
def b_l_run_1 : MSs := (.cons (.asg 2 (.sub (.sub (.sub (.slot 0) (.int 2)) (.slot 2)) (.slot 3))) .nil)
def g_l_run : MF := ⟨2, 4, [], (.cons (.asg 2 (.sub (.slot 0) (.int 0))) (.cons (.forr (.name 3) (.of (.slot 1)) b_l_run_1) (.cons (.ret (.slot 2)) .nil)))⟩
theorem f_l_run_eq : f_l_run = g_l_run := rfl
def e_l_any_automaton_1 : ME := (.call 6 (.cons (.mv 0) (.cons (.rd (.slot 3)) .nil)))
def e_l_any_automaton_2 : ME := (.comp 5 e_l_any_automaton_1 (.r1 (.slot 1)) .none)
def e_l_any_automaton_3 : ME := (.slot 6)
def t_l_any_automaton_4 : MTo := (.some (.cmp .eq (.call 6 (.cons (.mv 0) (.cons (.rd (.int 2)) .nil))) (.int 0)))
def g_l_any_automaton : MF := ⟨3, 8, [0], (.cons (.asg 3 (.bin .add (.int 1) (.call 6 (.cons (.mv 0) (.cons (.rd (.slot 2)) .nil))))) (.cons (.asg 4 (.comp 6 e_l_any_automaton_2 (.r1 (.slot 3)) .none)) (.cons (.asg 7 (.comp 6 e_l_any_automaton_3 (.r1 (.slot 3)) t_l_any_automaton_4)) (.cons (.ret (.tup (.cons (.call 6 (.cons (.mv 0) (.cons (.rd (.slot 3)) .nil))) (.cons (.slot 7) (.cons (.slot 4) .nil))))) .nil))))⟩
theorem f_l_any_automaton_eq : f_l_any_automaton = g_l_any_automaton := rfl
def e_l_smallest_1 : ME := (.bi1 .int (.cmp .inn (.slot 5) (.slot 2)))
def e_l_smallest_2 : ME := (.sub (.slot 4) (.slot 8))
def e_l_smallest_3 : ME := (.tup (.cons (.sub (.slot 4) (.slot 5)) (.cons (.bi1 .tuple (.comp 8 e_l_smallest_2 (.of (.sub (.slot 3) (.slot 5))) .none)) .nil)))
def b_l_smallest_4 : MSs := (.cons (.ite (.cmp .nin (.slot 10) (.slot 9)) (.cons (.append (.slot 9) (.slot 10)) .nil) .nil) .nil)
def e_l_smallest_5 : ME := (.bi2 .idx (.slot 9) (.slot 10))
def b_l_smallest_6 : MSs := (.cons (.asg 7 (.comp 5 e_l_smallest_3 (.r1 (.bi1 .len (.slot 3))) .none)) (.cons (.asg 9 (.lst .nil)) (.cons (.forr (.name 10) (.of (.slot 7)) b_l_smallest_4) (.cons (.asg 4 (.comp 10 e_l_smallest_5 (.of (.slot 7)) .none)) .nil))))
def b_l_smallest_7 : MSs := (.cons (.ite (.cmp .nin (.sub (.slot 4) (.slot 8)) (.slot 11)) (.cons (.append (.slot 11) (.sub (.slot 4) (.slot 8))) .nil) .nil) (.cons (.append (.slot 15) (.bi2 .idx (.slot 11) (.sub (.slot 4) (.slot 8)))) .nil))
def b_l_smallest_8 : MSs := (.cons (.ite (.cmp .lt (.slot 13) (.bi1 .len (.slot 11))) (.cons (.asg 14 (.bi2 .idx (.slot 4) (.sub (.slot 11) (.slot 13)))) (.cons (.asg 15 (.lst .nil)) (.cons (.forr (.name 8) (.of (.sub (.slot 3) (.slot 14))) b_l_smallest_7) (.cons (.append (.slot 12) (.bi1 .tuple (.slot 15))) .nil)))) .nil) .nil)
def e_l_smallest_9 : ME := (.slot 5)
def t_l_smallest_10 : MTo := (.some (.cmp .inn (.bi2 .idx (.slot 4) (.sub (.slot 11) (.slot 5))) (.slot 2)))
def g_l_smallest : MF := ⟨1, 17, [], (.cons (.asgT (.trip 1 2 3) (.slot 0)) (.cons (.asg 4 (.comp 5 e_l_smallest_1 (.r1 (.bi1 .len (.slot 3))) .none)) (.cons (.forr (.name 6) (.r1 (.bi1 .len (.slot 3))) b_l_smallest_6) (.cons (.asg 11 (.lst (.cons (.sub (.slot 4) (.slot 1)) .nil))) (.cons (.asg 12 (.lst .nil)) (.cons (.forr (.name 13) (.r1 (.bi1 .len (.slot 3))) b_l_smallest_8) (.cons (.asg 16 (.comp 5 e_l_smallest_9 (.r1 (.bi1 .len (.slot 11))) t_l_smallest_10)) (.cons (.ret (.tup (.cons (.int 0) (.cons (.bi1 .tuple (.slot 16)) (.cons (.bi1 .tuple (.slot 12)) .nil))))) .nil))))))))⟩
theorem f_l_smallest_eq : f_l_smallest = g_l_smallest := rfl
def e_l_made_1 : ME := (.bi1 .list (.slot 2))
def g_l_made : MF := ⟨2, 3, [], (.cons (.ret (.make 1 58 (.cons (.rd (.bi1 .len (.slot 0))) (.cons (.rd (.sub (.slot 1) (.int 0))) (.cons (.rd (.bi1 .list (.sub (.slot 1) (.int 1)))) (.cons (.rd (.comp 2 e_l_made_1 (.of (.sub (.slot 1) (.int 2))) .none)) .nil)))))) .nil)⟩
theorem f_l_made_eq : f_l_made = g_l_made := rfl
def e_l_rests_1 : ME := (.sub (.slot 0) (.slot 4))
def b_l_rests_2 : MSs := (.cons (.asg 3 (.bi1 .tuple (.comp 4 e_l_rests_1 (.of (.slot 1)) .none))) (.cons (.ite (.cmp .eq (.slot 3) (.slot 1)) (.cons (.ret (.bl true)) .nil) .nil) (.cons (.asg 1 (.slot 3)) .nil)))
def g_l_rests : MF := ⟨1, 5, [], (.cons (.asg 1 (.slot 0)) (.cons (.forr (.name 2) (.r1 (.bin .add (.bi1 .len (.slot 0)) (.int 1))) b_l_rests_2) (.cons (.ret (.bl false)) .nil)))⟩
theorem f_l_rests_eq : f_l_rests = g_l_rests := rfl
def e_action_1 : ME := (.sub (.sub (.fld (.slot 0) 4) (.slot 4)) (.slot 3))
def b_action_2 : MSs := (.cons (.asg 2 (.comp 4 e_action_1 (.of (.slot 2)) .none)) .nil)
def g_action : MF := ⟨2, 5, [], (.cons (.asg 2 (.bi1 .lrng (.bi1 .len (.fld (.slot 0) 4)))) (.cons (.forr (.name 3) (.of (.slot 1)) b_action_2) (.cons (.ret (.bi1 .tuple (.slot 2))) .nil)))⟩
theorem f_action_eq : f_action = g_action := rfl
def e_classes_of_1 : ME := (.bi1 .int (.cmp .inn (.slot 3) (.slot 1)))
def e_classes_of_2 : ME := (.sub (.slot 2) (.slot 6))
def b_classes_of_3 : MSs := (.cons (.append (.slot 5) (.tup (.cons (.sub (.slot 2) (.slot 3)) (.cons (.bi1 .tuple (.comp 6 e_classes_of_2 (.of (.sub (.fld (.slot 0) 4) (.slot 3))) .none)) .nil)))) .nil)
def b_classes_of_4 : MSs := (.cons (.ite (.cmp .nin (.slot 8) (.slot 7)) (.cons (.dset 7 (.slot 8) (.bi1 .lend (.slot 7))) .nil) .nil) .nil)
def e_classes_of_5 : ME := (.dget (.slot 7) (.slot 8))
def t_classes_of_6 : MT := (.cmp .ne (.slot 4) (.bi1 .lset (.slot 2)))
def b_classes_of_7 : MSs := (.cons (.asg 4 (.bi1 .lset (.slot 2))) (.cons (.asg 5 (.lst .nil)) (.cons (.forr (.name 3) (.r1 (.bi1 .len (.fld (.slot 0) 4))) b_classes_of_3) (.cons (.asg 7 (.dnew 2)) (.cons (.forr (.name 8) (.of (.slot 5)) b_classes_of_4) (.cons (.asg 2 (.comp 8 e_classes_of_5 (.of (.slot 5)) .none)) .nil))))))
def g_classes_of : MF := ⟨1, 9, [], (.cons (.asg 1 (.fld (.slot 0) 3)) (.cons (.asg 2 (.comp 3 e_classes_of_1 (.r1 (.bi1 .len (.fld (.slot 0) 4))) .none)) (.cons (.asg 4 (.int 0)) (.cons (.whil t_classes_of_6 b_classes_of_7) (.cons (.ret (.slot 2)) .nil)))))⟩
theorem f_classes_of_eq : f_classes_of = g_classes_of := rfl
def g_least_step : MF := ⟨5, 5, [], (.cons (.ret (.sub (.slot 3) (.sub (.sub (.fld (.slot 2) 4) (.dget (.slot 4) (.slot 0))) (.slot 1)))) .nil)⟩
theorem f_least_step_eq : f_least_step = g_least_step := rfl
def g_least_is_final : MF := ⟨3, 3, [], (.cons (.ret (.cmp .inn (.dget (.slot 2) (.slot 0)) (.fld (.slot 1) 3))) .nil)⟩
theorem f_least_is_final_eq : f_least_is_final = g_least_is_final := rfl
def b_explored_0_1 : MSs := (.cons (.asg 11 (.callc 2 (.cons (.rd (.sub (.slot 5) (.slot 8))) (.cons (.rd (.slot 10)) .nil)))) (.cons (.ite (.cmp .nin (.slot 11) (.slot 6)) (.cons (.dset 6 (.slot 11) (.bi1 .len (.slot 5))) (.cons (.append (.slot 5) (.slot 11)) .nil)) .nil) (.cons (.append (.slot 9) (.dget (.slot 6) (.slot 11))) .nil)))
def t_explored_0_2 : MT := (.cmp .lt (.slot 8) (.bi1 .len (.slot 5)))
def b_explored_0_3 : MSs := (.cons (.asg 9 (.lst .nil)) (.cons (.forr (.name 10) (.r1 (.slot 0)) b_explored_0_1) (.cons (.append (.slot 7) (.slot 9)) (.cons (.aug 8 .add (.int 1)) .nil))))
def e_explored_0_4 : ME := (.slot 13)
def t_explored_0_5 : MTo := (.some (.val (.callc 3 (.cons (.rd (.sub (.slot 5) (.slot 13))) .nil))))
def b_least_1 : MSs := (.cons (.ite (.cmp .nin (.sub (.slot 2) (.slot 4)) (.slot 3)) (.cons (.dset 3 (.sub (.slot 2) (.slot 4)) (.slot 4)) .nil) .nil) .nil)
def g_least : MF := ⟨2, 7, [1], (.cons (.asg 2 (.call 280 (.cons (.rd (.slot 0)) .nil))) (.cons (.asg 3 (.dnew 0)) (.cons (.forr (.name 4) (.r1 (.bi1 .len (.slot 2))) b_least_1) (.cons (.defn 1 5 281 [0, 2, 3]) (.cons (.defn 1 6 282 [0, 3]) (.cons (.ret (.hcall 283 (.cons (.rd (.fld (.slot 0) 1)) (.cons (.rd (.sub (.slot 2) (.fld (.slot 0) 2))) .nil)) 1 [(5, 281, [0, 2, 3]), (6, 282, [0, 3])])) .nil))))))⟩
theorem f_least_eq : f_least = g_least := rfl
def e_actions_1 : ME := (.sub (.sub (.fld (.slot 2) 4) (.slot 9)) (.slot 7))
def b_actions_2 : MSs := (.cons (.asg 8 (.bi1 .tuple (.comp 9 e_actions_1 (.of (.sub (.slot 5) (.slot 6))) .none))) (.cons (.ite (.cmp .nin (.slot 8) (.slot 4)) (.cons (.ite (.cmp .eq (.bi1 .len (.slot 5)) (.glob "MOST_ACTIONS" 400)) (.cons (.raise 2) .nil) .nil) (.cons (.dset 4 (.slot 8) (.bin .add (.dget (.slot 4) (.sub (.slot 5) (.slot 6))) (.tup (.cons (.slot 7) .nil)))) (.cons (.append (.slot 5) (.slot 8)) .nil))) .nil) .nil))
def t_actions_3 : MT := (.cmp .lt (.slot 6) (.bi1 .len (.slot 5)))
def b_actions_4 : MSs := (.cons (.forr (.name 7) (.r1 (.fld (.slot 2) 1)) b_actions_2) (.cons (.aug 6 .add (.int 1)) .nil))
def e_actions_5 : ME := (.tup (.cons (.dget (.slot 4) (.slot 10)) (.cons (.slot 10) .nil)))
def g_actions : MF := ⟨2, 11, [1], (.cons (.asg 2 (.call 284 (.cons (.rd (.slot 0)) (.cons (.tok 1) .nil)))) (.cons (.asg 3 (.bi1 .trng (.bi1 .len (.fld (.slot 2) 4)))) (.cons (.asg 4 (.dlit 2 (.slot 3) (.tup .nil))) (.cons (.asg 5 (.lst (.cons (.slot 3) .nil))) (.cons (.asg 6 (.int 0)) (.cons (.whil t_actions_3 b_actions_4) (.cons (.ret (.comp 10 e_actions_5 (.of (.slot 5)) .none)) .nil)))))))⟩
theorem f_actions_eq : f_actions = g_actions := rfl
def e_settles_1 : ME := (.sub (.slot 0) (.slot 3))
def t_settles_2 : MT := (.cmp .nin (.slot 2) (.slot 1))
def b_settles_3 : MSs := (.cons (.dset 1 (.slot 2) (.bl true)) (.cons (.asg 2 (.bi1 .tuple (.comp 3 e_settles_1 (.of (.slot 2)) .none))) .nil))
def e_settles_4 : ME := (.sub (.slot 0) (.slot 3))
def g_settles : MF := ⟨1, 4, [], (.cons (.asg 1 (.dnew 2)) (.cons (.asg 2 (.slot 0)) (.cons (.whil t_settles_2 b_settles_3) (.cons (.ret (.cmp .eq (.bi1 .tuple (.comp 3 e_settles_4 (.of (.slot 2)) .none)) (.slot 2))) .nil))))⟩
theorem f_settles_eq : f_settles = g_settles := rfl
def b_unsettled_word_1 : MSs := (.cons (.ite (.not (.val (.call 326 (.cons (.rd (.slot 3)) .nil)))) (.cons (.ret (.slot 2)) .nil) .nil) .nil)
def g_unsettled_word : MF := ⟨2, 4, [1], (.cons (.forr (.pair 2 3) (.of (.call 325 (.cons (.rd (.slot 0)) (.cons (.tok 1) .nil)))) b_unsettled_word_1) (.cons (.ret .non) .nil))⟩
theorem f_unsettled_word_eq : f_unsettled_word = g_unsettled_word := rfl
def g_l_outcomeqqqqqqq : MF := ⟨2, 2, [1], (.cons (.tryRet (.call 325 (.cons (.rd (.slot 0)) (.cons (.tok 1) .nil))) 2 (.cons (.ret .non) .nil)) .nil)⟩
theorem f_l_outcomeqqqqqqq_eq : f_l_outcomeqqqqqqq = g_l_outcomeqqqqqqq := rfl
def e_l_table_1 : ME := (.sub (.sub (.slot 3) (.slot 10)) (.slot 8))
def b_l_table_2 : MSs := (.cons (.asg 9 (.bi1 .tuple (.comp 10 e_l_table_1 (.of (.sub (.sub (.slot 5) (.slot 7)) (.int 1))) .none))) (.cons (.ite (.cmp .nin (.slot 9) (.slot 6)) (.cons (.dset 6 (.slot 9) (.bl true)) (.cons (.append (.slot 5) (.tup (.cons (.bin .add (.sub (.sub (.slot 5) (.slot 7)) (.int 0)) (.tup (.cons (.slot 8) .nil))) (.cons (.slot 9) .nil)))) .nil)) .nil) .nil))
def b_l_table_3 : MSs := (.cons (.ite (.and (.cmp .lt (.slot 7) (.bi1 .len (.slot 5))) (.cmp .le (.bi1 .len (.slot 5)) (.int 400))) (.cons (.forr (.name 8) (.r1 (.bi1 .len (.sub (.slot 3) (.int 0)))) b_l_table_2) .nil) .nil) .nil)
def g_l_table : MF := ⟨1, 11, [], (.cons (.asgT (.trip 1 2 3) (.call 64 (.cons (.rd (.slot 0)) .nil))) (.cons (.asg 4 (.bi1 .trng (.bi1 .len (.slot 3)))) (.cons (.asg 5 (.lst (.cons (.tup (.cons (.tup .nil) (.cons (.slot 4) .nil))) .nil))) (.cons (.asg 6 (.dlit 2 (.slot 4) (.bl true))) (.cons (.forr (.name 7) (.r1 (.int 401)) b_l_table_3) (.cons (.ret (.slot 5)) .nil))))))⟩
theorem f_l_table_eq : f_l_table = g_l_table := rfl
def e_law_k30_1 : ME := (.call 61 (.cons (.rd (.tup (.cons (.slot 8) (.cons (.lst .nil) (.cons (.sub (.slot 4) (.int 2)) .nil))))) (.cons (.rd (.slot 6)) .nil)))
def e_law_k30_2 : ME := (.sub (.slot 12) (.int 0))
def t_law_k30_3 : MTo := (.some (.not (.val (.call 153 (.cons (.rd (.sub (.slot 12) (.int 1))) .nil)))))
def c_law_k30_2 : MSs := (.cons (.ite (.or (.not (.val (.isi (.slot 10) .list))) (.cmp .ne (.slot 10) (.slot 9))) (.cons (.ret (.bl false)) .nil) .nil) (.cons (.asg 11 (.comp 12 e_law_k30_2 (.of (.slot 9)) t_law_k30_3)) (.cons (.ite (.cmp .eq (.bi1 .len (.slot 11)) (.int 0)) (.cons (.ret (.isn false (.call 327 (.cons (.rd (.slot 5)) (.cons (.tok 1) .nil))))) .nil) .nil) (.cons (.ret (.cmp .eq (.call 327 (.cons (.rd (.slot 5)) (.cons (.tok 1) .nil))) (.sub (.slot 11) (.int 0)))) .nil))))
def c_law_k30_1 : MSs := (.cons (.asg 7 (.bi1 .tuple (.comp 8 e_law_k30_1 (.r1 (.bi1 .len (.sub (.slot 4) (.int 2)))) .none))) (.cons (.ite (.cmp .ne (.call 247 (.cons (.rd (.slot 5)) (.cons (.rd (.bi1 .list (.slot 6))) .nil))) (.slot 7)) (.cons (.ret (.bl false)) .nil) .nil) (.cons (.asg 9 (.call 329 (.cons (.rd (.slot 4)) .nil))) (.cons (.asg 10 (.call 328 (.cons (.rd (.slot 5)) (.cons (.tok 1) .nil)))) (.cons (.ite (.cmp .gt (.bi1 .len (.slot 9)) (.int 400)) (.cons (.ret (.isn false (.slot 10))) .nil) .nil) c_law_k30_2)))))
def g_law_k30 : MF := ⟨2, 13, [1], (.cons (.asg 2 (.call 5 (.cons (.rd (.slot 0)) (.cons (.rd (.int 80)) .nil)))) (.cons (.asg 3 (.bin .add (.int 1) (.call 6 (.cons (.mv 2) (.cons (.rd (.int 3)) .nil))))) (.cons (.asg 4 (.call 63 (.cons (.mv 2) (.cons (.rd (.slot 3)) (.cons (.rd (.int 4)) .nil))))) (.cons (.asg 5 (.call 66 (.cons (.rd (.bin .mul (.lst (.cons (.tup (.cons (.int 0) .nil)) .nil)) (.slot 3))) (.cons (.rd (.slot 4)) .nil)))) (.cons (.asg 6 (.call 14 (.cons (.mv 2) (.cons (.rd (.slot 3)) (.cons (.rd (.int 6)) .nil))))) c_law_k30_1)))))⟩
theorem f_law_k30_eq : f_law_k30 = g_law_k30 := rfl
/-! Abm0: the evaluator by simp: what it answers at typed data -/
/-! loops -/
theorem forL_inv {st : SA → Fl} {g : MG} : ∀ (ds : List D) {I : Nat → SA → Prop} {s : SA}, I 0 s →
    (∀ k x s, ds[k]? = some x → I k s → ∃ s1 s2, asgG g x s = some s1 ∧ (st s1 = .nx s2 ∨ st s1 = .ct s2) ∧ I (k + 1) s2) →
    ∃ s', forL st g ds s = .nx s' ∧ I ds.length s'
  | [], I, s, h0, _ => ⟨s, rfl, h0⟩
  | x :: xs, I, s, h0, hs => by
    obtain ⟨s1, s2, e1, e2, h2⟩ := hs 0 x s rfl h0
    obtain ⟨s', e, h⟩ := forL_inv xs (I := fun k => I (k + 1)) h2 fun k y s hy hi => hs (k + 1) y s (by simpa using hy) hi
    refine ⟨s', ?_, h⟩
    rw [forL, e1]
    rcases e2 with e2 | e2 <;> simp only [e2] <;> exact e
theorem forV_inv {st : SA → Fl} {g : MG} {i : Nat} {ds : List D} (hg : g.slots.contains i = false) (hst : stills ds = true) : ∀ (n k : Nat) {I : Nat → SA → Prop} {s : SA}, I k s → k ≤ ds.length → ds.length - k < n →
    (∀ k s, I k s → ∃ m, rd s i = some (.lst m ds)) →
    (∀ k x s, ds[k]? = some x → I k s → ∃ s1 s2, asgG g x s = some s1 ∧ (st s1 = .nx s2 ∨ st s1 = .ct s2) ∧ I (k + 1) s2) →
    ∃ s', forV st g i n k s = .nx s' ∧ I ds.length s'
  | 0, k, I, s, h0, hk, hn, hrd, hs => absurd hn (by omega)
  | n + 1, k, I, s, h0, hk, hn, hrd, hs => by
    obtain ⟨m, er⟩ := hrd k s h0
    rw [forV, er]
    by_cases hk' : k < ds.length
    · have ex : ds[k]? = some ds[k] := List.getElem?_eq_getElem hk'
      have hx : still ds[k] = true := by
        clear hrd hs h0 er ex
        have : ∀ (ds : List D) (k : Nat) (h : k < ds.length), stills ds = true → still ds[k] = true := by
          intro ds
          induction ds with
          | nil => intro k h; exact absurd h (by simp)
          | cons d ds ih =>
            intro k h hh
            simp only [stills, Bool.and_eq_true] at hh
            cases k with
            | zero => exact hh.1
            | succ k => exact ih k (by simpa using h) hh.2
        exact this ds k hk' hst
      obtain ⟨s1, s2, e1, e2, h2⟩ := hs k _ s ex h0
      have := forV_inv hg hst n (k + 1) h2 (by omega) (by omega) hrd hs
      simp only [ex, hx, hg, Bool.not_false, Bool.and_self, if_true, e1]
      rcases e2 with e2 | e2 <;> simp only [e2] <;> exact this
    · have : k = ds.length := by omega
      subst this
      simp only [List.getElem?_eq_none (Nat.le_refl _)]
      exact ⟨s, rfl, h0⟩
theorem whileL_inv {c : SA → Er Bool} {st : SA → Fl} {I : Nat → SA → Prop} {Q : SA → Prop}
    (hs : ∀ k s, I k s → (∃ s1, c s = .ok false s1 ∧ Q s1) ∨ (∃ s1 s2 k', c s = .ok true s1 ∧ ((st s1 = .nx s2 ∨ st s1 = .ct s2) ∧ I k' s2 ∧ k' < k))) :
    ∀ (n k : Nat) {s : SA}, I k s → k < n → ∃ s', whileL c st n s = .nx s' ∧ Q s'
  | 0, k, s, _, hk => absurd hk (by omega)
  | n + 1, k, s, hi, hk => by
    rcases hs k s hi with ⟨s1, e, q⟩ | ⟨s1, s2, k', e, e2, hi', hk'⟩
    · rw [whileL, e]; exact ⟨s1, rfl, q⟩
    · obtain ⟨s', e', q⟩ := whileL_inv hs n k' hi' (by omega)
      rw [whileL, e]
      rcases e2 with e2 | e2 <;> simp only [e2] <;> exact ⟨s', e', q⟩
theorem compL_map {α : Type} {f : SA → Er Bool} {g : SA → Er D} {own : Nat} {s : SA} (hs : s.set own none = s) (e : α → D) (p : α → Bool) (h : α → D) : ∀ (l : List α),
    (∀ x, x ∈ l → f (s.set own (some (e x))) = .ok (p x) (s.set own (some (e x))) ∧ (p x = true → g (s.set own (some (e x))) = .ok (h x) (s.set own (some (e x))))) →
    compL f g own (l.map e) s = .ok ((l.filter p).map h) s
  | [], _ => rfl
  | x :: xs, hx => by
    obtain ⟨h1, h2⟩ := hx x (by simp)
    have ih := compL_map hs e p h xs fun y hy => hx y (by simp [hy])
    have e' : (s.set own (some (e x))).set own none = s := by rw [List.set_set, hs]
    rw [List.map_cons, compL, h1]
    simp only [Er.bind]
    by_cases hp : p x = true
    · simp [hp, h2 hp, e', ih, List.filter_cons]
    · simp [hp, e', ih, List.filter_cons]
theorem compV_map {α : Type} {W : Nat} {f : SA → Er Bool} {g : SA → Er D} {own i : Nat} {s : SA} (hs : s.set own none = s) (hoi : own ≠ i) (e : α → D) (he : ∀ x, still (e x) = true) (p : α → Bool) (h : α → D) (l : List α) {m : Bool}
    (hl : rd s i = some (.lst m (l.map e))) (hz : l.length ≤ sizeLine) : ∀ (n k : Nat), k ≤ l.length → l.length - k < n →
    (∀ x, x ∈ l → f (s.set own (some (e x))) = .ok (p x) (s.set own (some (e x))) ∧ (p x = true → g (s.set own (some (e x))) = .ok (h x) (s.set own (some (e x))))) →
    compV W f g own i n k s = .ok (((l.drop k).filter p).map h) s
  | 0, k, hk, hn, _ => absurd hn (by omega)
  | n + 1, k, hk, hn, hx => by
    rw [compV, hl]
    by_cases hk' : k < l.length
    · obtain ⟨h1, h2⟩ := hx l[k] (List.getElem_mem hk')
      have ih := compV_map (W := W) hs hoi e he p h l hl hz n (k + 1) (by omega) (by omega) hx
      have e' : (s.set own (some (e l[k]))).set own none = s := by rw [List.set_set, hs]
      have hd : l.drop k = l[k] :: l.drop (k + 1) := List.drop_eq_getElem_cons hk'
      have hoi' : (own == i) = false := by simp [hoi]
      have hz' : decide (l.length ≤ sizeLine) = true := decide_eq_true hz
      simp only [List.getElem?_map, List.getElem?_eq_getElem hk', Option.map_some, he, hoi', List.length_map, hz', Bool.not_false, Bool.and_self, if_true]
      rw [h1]; simp only [Er.bind]
      rw [hd]
      cases hp : p l[k]
      · rw [List.filter_cons_of_neg (by rw [hp]; decide)]
        simp only [e', ih, Bool.false_eq_true, if_false]
      · rw [List.filter_cons_of_pos hp]
        simp only [h2 hp, e', ih, if_true, List.map_cons]
    · have : k = l.length := by omega
      subst this
      simp only [List.getElem?_map, List.getElem?_eq_none (Nat.le_refl _), Option.map_none, List.drop_length, List.filter_nil, List.map_nil]
@[local simp] theorem sizeLine_eq : sizeLine = 16777216 := rfl
@[local simp] theorem q_ex_1 : type_of% @ex.eq_1 := @ex.eq_1
@[local simp] theorem q_ex_2 : type_of% @ex.eq_2 := @ex.eq_2
@[local simp] theorem q_ex_3 : type_of% @ex.eq_3 := @ex.eq_3
@[local simp] theorem q_ex_4 : type_of% @ex.eq_4 := @ex.eq_4
@[local simp] theorem q_ex_5 : type_of% @ex.eq_5 := @ex.eq_5
@[local simp] theorem q_ex_6 : type_of% @ex.eq_6 := @ex.eq_6
@[local simp] theorem q_ex_7 : type_of% @ex.eq_7 := @ex.eq_7
@[local simp] theorem q_ex_8 : type_of% @ex.eq_8 := @ex.eq_8
@[local simp] theorem q_ex_9 : type_of% @ex.eq_9 := @ex.eq_9
@[local simp] theorem q_ex_10 : type_of% @ex.eq_10 := @ex.eq_10
@[local simp] theorem q_ex_11 : type_of% @ex.eq_11 := @ex.eq_11
@[local simp] theorem q_ex_12 : type_of% @ex.eq_12 := @ex.eq_12
@[local simp] theorem q_ex_13 : type_of% @ex.eq_13 := @ex.eq_13
@[local simp] theorem q_ex_14 : type_of% @ex.eq_14 := @ex.eq_14
@[local simp] theorem q_ex_15 : type_of% @ex.eq_15 := @ex.eq_15
@[local simp] theorem q_ex_16 : type_of% @ex.eq_16 := @ex.eq_16
@[local simp] theorem q_ex_17 : type_of% @ex.eq_17 := @ex.eq_17
@[local simp] theorem q_ex_18 : type_of% @ex.eq_18 := @ex.eq_18
@[local simp] theorem q_ex_19 : type_of% @ex.eq_19 := @ex.eq_19
@[local simp] theorem q_ex_20 : type_of% @ex.eq_20 := @ex.eq_20
@[local simp] theorem q_ex_21 : type_of% @ex.eq_21 := @ex.eq_21
@[local simp] theorem q_ex_22 : type_of% @ex.eq_22 := @ex.eq_22
@[local simp] theorem q_ex_23 : type_of% @ex.eq_23 := @ex.eq_23
@[local simp] theorem q_ex_24 : type_of% @ex.eq_24 := @ex.eq_24
@[local simp] theorem q_ex_25 : type_of% @ex.eq_25 := @ex.eq_25
@[local simp] theorem q_ex_26 : type_of% @ex.eq_26 := @ex.eq_26
@[local simp] theorem q_ex_27 : type_of% @ex.eq_27 := @ex.eq_27
@[local simp] theorem q_ex_28 : type_of% @ex.eq_28 := @ex.eq_28
@[local simp] theorem q_ex_29 : type_of% @ex.eq_29 := @ex.eq_29
@[local simp] theorem q_ex_30 : type_of% @ex.eq_30 := @ex.eq_30
@[local simp] theorem q_ex_31 : type_of% @ex.eq_31 := @ex.eq_31
@[local simp] theorem q_ev_1 : type_of% @ev.eq_1 := @ev.eq_1
@[local simp] theorem q_ev_2 : type_of% @ev.eq_2 := @ev.eq_2
@[local simp] theorem q_ev_3 : type_of% @ev.eq_3 := @ev.eq_3
@[local simp] theorem q_ev_4 : type_of% @ev.eq_4 := @ev.eq_4
@[local simp] theorem q_ev_5 : type_of% @ev.eq_5 := @ev.eq_5
@[local simp] theorem q_ev_6 : type_of% @ev.eq_6 := @ev.eq_6
@[local simp] theorem q_ev_7 : type_of% @ev.eq_7 := @ev.eq_7
@[local simp] theorem q_ev_8 : type_of% @ev.eq_8 := @ev.eq_8
@[local simp] theorem q_ev_9 : type_of% @ev.eq_9 := @ev.eq_9
@[local simp] theorem q_ev_10 : type_of% @ev.eq_10 := @ev.eq_10
@[local simp] theorem q_ev_11 : type_of% @ev.eq_11 := @ev.eq_11
@[local simp] theorem q_ev_12 : type_of% @ev.eq_12 := @ev.eq_12
@[local simp] theorem q_ev_13 : type_of% @ev.eq_13 := @ev.eq_13
@[local simp] theorem q_ev_14 : type_of% @ev.eq_14 := @ev.eq_14
@[local simp] theorem q_ev_15 : type_of% @ev.eq_15 := @ev.eq_15
@[local simp] theorem q_ev_16 : type_of% @ev.eq_16 := @ev.eq_16
@[local simp] theorem q_ev_17 : type_of% @ev.eq_17 := @ev.eq_17
@[local simp] theorem q_ev_18 : type_of% @ev.eq_18 := @ev.eq_18
@[local simp] theorem q_ev_19 : type_of% @ev.eq_19 := @ev.eq_19
@[local simp] theorem q_ev_20 : type_of% @ev.eq_20 := @ev.eq_20
@[local simp] theorem q_ev_21 : type_of% @ev.eq_21 := @ev.eq_21
@[local simp] theorem q_ev_22 : type_of% @ev.eq_22 := @ev.eq_22
@[local simp] theorem q_ev_23 : type_of% @ev.eq_23 := @ev.eq_23
@[local simp] theorem q_ev_24 : type_of% @ev.eq_24 := @ev.eq_24
@[local simp] theorem q_ev_25 : type_of% @ev.eq_25 := @ev.eq_25
@[local simp] theorem q_ev_26 : type_of% @ev.eq_26 := @ev.eq_26
@[local simp] theorem q_ev_27 : type_of% @ev.eq_27 := @ev.eq_27
@[local simp] theorem q_ev_28 : type_of% @ev.eq_28 := @ev.eq_28
@[local simp] theorem q_ev_29 : type_of% @ev.eq_29 := @ev.eq_29
@[local simp] theorem q_ev_30 : type_of% @ev.eq_30 := @ev.eq_30
@[local simp] theorem q_ev_31 : type_of% @ev.eq_31 := @ev.eq_31
@[local simp] theorem q_ev_32 : type_of% @ev.eq_32 := @ev.eq_32
@[local simp] theorem q_ev_33 : type_of% @ev.eq_33 := @ev.eq_33
@[local simp] theorem q_ev_34 : type_of% @ev.eq_34 := @ev.eq_34
@[local simp] theorem q_ev_35 : type_of% @ev.eq_35 := @ev.eq_35
@[local simp] theorem q_ev_36 : type_of% @ev.eq_36 := @ev.eq_36
@[local simp] theorem q_ev_37 : type_of% @ev.eq_37 := @ev.eq_37
@[local simp] theorem q_ev_38 : type_of% @ev.eq_38 := @ev.eq_38
@[local simp] theorem q_ev_39 : type_of% @ev.eq_39 := @ev.eq_39
@[local simp] theorem q_ev_40 : type_of% @ev.eq_40 := @ev.eq_40
@[local simp] theorem q_ev_41 : type_of% @ev.eq_41 := @ev.eq_41
@[local simp] theorem q_ev_42 : type_of% @ev.eq_42 := @ev.eq_42
@[local simp] theorem q_ev_43 : type_of% @ev.eq_43 := @ev.eq_43
@[local simp] theorem q_ev_44 : type_of% @ev.eq_44 := @ev.eq_44
@[local simp] theorem q_evI_1 : type_of% @evI.eq_1 := @evI.eq_1
@[local simp] theorem q_evI_2 : type_of% @evI.eq_2 := @evI.eq_2
@[local simp] theorem q_evI_3 : type_of% @evI.eq_3 := @evI.eq_3
@[local simp] theorem q_evI_4 : type_of% @evI.eq_4 := @evI.eq_4
@[local simp] theorem q_evT_1 : type_of% @evT.eq_1 := @evT.eq_1
@[local simp] theorem q_evT_2 : type_of% @evT.eq_2 := @evT.eq_2
@[local simp] theorem q_evT_3 : type_of% @evT.eq_3 := @evT.eq_3
@[local simp] theorem q_evT_4 : type_of% @evT.eq_4 := @evT.eq_4
@[local simp] theorem q_evT_5 : type_of% @evT.eq_5 := @evT.eq_5
@[local simp] theorem q_evT_6 : type_of% @evT.eq_6 := @evT.eq_6
@[local simp] theorem q_evT_7 : type_of% @evT.eq_7 := @evT.eq_7
@[local simp] theorem q_evT_8 : type_of% @evT.eq_8 := @evT.eq_8
@[local simp] theorem q_evTo_1 : type_of% @evTo.eq_1 := @evTo.eq_1
@[local simp] theorem q_evTo_2 : type_of% @evTo.eq_2 := @evTo.eq_2
@[local simp] theorem q_evs_1 : type_of% @evs.eq_1 := @evs.eq_1
@[local simp] theorem q_evs_2 : type_of% @evs.eq_2 := @evs.eq_2
@[local simp] theorem q_evA_1 : type_of% @evA.eq_1 := @evA.eq_1
@[local simp] theorem q_evA_2 : type_of% @evA.eq_2 := @evA.eq_2
@[local simp] theorem q_evA_3 : type_of% @evA.eq_3 := @evA.eq_3
@[local simp] theorem q_evA_4 : type_of% @evA.eq_4 := @evA.eq_4
@[local simp] theorem q_evAs_1 : type_of% @evAs.eq_1 := @evAs.eq_1
@[local simp] theorem q_evAs_2 : type_of% @evAs.eq_2 := @evAs.eq_2
@[local simp] theorem q_evO_1 : type_of% @evO.eq_1 := @evO.eq_1
@[local simp] theorem q_evO_2 : type_of% @evO.eq_2 := @evO.eq_2
@[local simp] theorem q_evP_1 : type_of% @evP.eq_1 := @evP.eq_1
@[local simp] theorem q_evP_2 : type_of% @evP.eq_2 := @evP.eq_2
@[local simp] theorem q_evP_3 : type_of% @evP.eq_3 := @evP.eq_3
@[local simp] theorem q_evP_4 : type_of% @evP.eq_4 := @evP.eq_4
@[local simp] theorem q_stay_1 : type_of% @stay.eq_1 := @stay.eq_1
@[local simp] theorem q_tmpz_1 : type_of% @tmpz.eq_1 := @tmpz.eq_1
@[local simp] theorem q_rootOf_1 : type_of% @rootOf.eq_1 := @rootOf.eq_1
@[local simp] theorem q_rootOf_2 : type_of% @rootOf.eq_2 := @rootOf.eq_2
@[local simp] theorem q_rootOf_3 : type_of% @rootOf.eq_3 := @rootOf.eq_3
@[local simp] theorem q_rootOf_4 : type_of% @rootOf.eq_4 := @rootOf.eq_4
@[local simp] theorem q_slotOf_1 : type_of% @slotOf.eq_1 := @slotOf.eq_1
@[local simp] theorem q_slotOf_2 : type_of% @slotOf.eq_2 := @slotOf.eq_2
@[local simp] theorem q_pureE_1 : type_of% @pureE.eq_1 := @pureE.eq_1
@[local simp] theorem q_pureE_2 : type_of% @pureE.eq_2 := @pureE.eq_2
@[local simp] theorem q_pureE_3 : type_of% @pureE.eq_3 := @pureE.eq_3
@[local simp] theorem q_pureE_4 : type_of% @pureE.eq_4 := @pureE.eq_4
@[local simp] theorem q_pureE_5 : type_of% @pureE.eq_5 := @pureE.eq_5
@[local simp] theorem q_pureE_6 : type_of% @pureE.eq_6 := @pureE.eq_6
@[local simp] theorem q_pureE_7 : type_of% @pureE.eq_7 := @pureE.eq_7
@[local simp] theorem q_pureE_8 : type_of% @pureE.eq_8 := @pureE.eq_8
@[local simp] theorem q_pureE_9 : type_of% @pureE.eq_9 := @pureE.eq_9
@[local simp] theorem q_pureE_10 : type_of% @pureE.eq_10 := @pureE.eq_10
@[local simp] theorem q_pureE_11 : type_of% @pureE.eq_11 := @pureE.eq_11
@[local simp] theorem q_pureE_12 : type_of% @pureE.eq_12 := @pureE.eq_12
@[local simp] theorem q_pureE_13 : type_of% @pureE.eq_13 := @pureE.eq_13
@[local simp] theorem q_pureE_14 : type_of% @pureE.eq_14 := @pureE.eq_14
@[local simp] theorem q_pureE_15 : type_of% @pureE.eq_15 := @pureE.eq_15
@[local simp] theorem q_pureE_16 : type_of% @pureE.eq_16 := @pureE.eq_16
@[local simp] theorem q_pureE_17 : type_of% @pureE.eq_17 := @pureE.eq_17
@[local simp] theorem q_pureE_18 : type_of% @pureE.eq_18 := @pureE.eq_18
@[local simp] theorem q_pureE_19 : type_of% @pureE.eq_19 := @pureE.eq_19
@[local simp] theorem q_pureE_20 : type_of% @pureE.eq_20 := @pureE.eq_20
@[local simp] theorem q_pureE_21 : type_of% @pureE.eq_21 := @pureE.eq_21
@[local simp] theorem q_pureE_22 : type_of% @pureE.eq_22 := @pureE.eq_22
@[local simp] theorem q_pureE_23 : type_of% @pureE.eq_23 := @pureE.eq_23
@[local simp] theorem q_pureE_24 : type_of% @pureE.eq_24 := @pureE.eq_24
@[local simp] theorem q_pureE_25 : type_of% @pureE.eq_25 := @pureE.eq_25
@[local simp] theorem q_pureE_26 : type_of% @pureE.eq_26 := @pureE.eq_26
@[local simp] theorem q_pureE_27 : type_of% @pureE.eq_27 := @pureE.eq_27
@[local simp] theorem q_pureE_28 : type_of% @pureE.eq_28 := @pureE.eq_28
@[local simp] theorem q_pureE_29 : type_of% @pureE.eq_29 := @pureE.eq_29
@[local simp] theorem q_pureE_30 : type_of% @pureE.eq_30 := @pureE.eq_30
@[local simp] theorem q_pureE_31 : type_of% @pureE.eq_31 := @pureE.eq_31
@[local simp] theorem q_pureE_32 : type_of% @pureE.eq_32 := @pureE.eq_32
@[local simp] theorem q_pureE_33 : type_of% @pureE.eq_33 := @pureE.eq_33
@[local simp] theorem q_pureE_34 : type_of% @pureE.eq_34 := @pureE.eq_34
@[local simp] theorem q_pureE_35 : type_of% @pureE.eq_35 := @pureE.eq_35
@[local simp] theorem q_pureE_36 : type_of% @pureE.eq_36 := @pureE.eq_36
@[local simp] theorem q_pureE_37 : type_of% @pureE.eq_37 := @pureE.eq_37
@[local simp] theorem q_pureE_38 : type_of% @pureE.eq_38 := @pureE.eq_38
@[local simp] theorem q_pureO_1 : type_of% @pureO.eq_1 := @pureO.eq_1
@[local simp] theorem q_pureO_2 : type_of% @pureO.eq_2 := @pureO.eq_2
@[local simp] theorem q_pureEs_1 : type_of% @pureEs.eq_1 := @pureEs.eq_1
@[local simp] theorem q_pureEs_2 : type_of% @pureEs.eq_2 := @pureEs.eq_2
@[local simp] theorem q_pureA_1 : type_of% @pureA.eq_1 := @pureA.eq_1
@[local simp] theorem q_pureA_2 : type_of% @pureA.eq_2 := @pureA.eq_2
@[local simp] theorem q_pureA_3 : type_of% @pureA.eq_3 := @pureA.eq_3
@[local simp] theorem q_pureA_4 : type_of% @pureA.eq_4 := @pureA.eq_4
@[local simp] theorem q_pureAs_1 : type_of% @pureAs.eq_1 := @pureAs.eq_1
@[local simp] theorem q_pureAs_2 : type_of% @pureAs.eq_2 := @pureAs.eq_2
@[local simp] theorem q_pureI_1 : type_of% @pureI.eq_1 := @pureI.eq_1
@[local simp] theorem q_pureI_2 : type_of% @pureI.eq_2 := @pureI.eq_2
@[local simp] theorem q_pureI_3 : type_of% @pureI.eq_3 := @pureI.eq_3
@[local simp] theorem q_pureI_4 : type_of% @pureI.eq_4 := @pureI.eq_4
@[local simp] theorem q_pureT_1 : type_of% @pureT.eq_1 := @pureT.eq_1
@[local simp] theorem q_pureT_2 : type_of% @pureT.eq_2 := @pureT.eq_2
@[local simp] theorem q_pureT_3 : type_of% @pureT.eq_3 := @pureT.eq_3
@[local simp] theorem q_pureT_4 : type_of% @pureT.eq_4 := @pureT.eq_4
@[local simp] theorem q_pureT_5 : type_of% @pureT.eq_5 := @pureT.eq_5
@[local simp] theorem q_pureT_6 : type_of% @pureT.eq_6 := @pureT.eq_6
@[local simp] theorem q_pureT_7 : type_of% @pureT.eq_7 := @pureT.eq_7
@[local simp] theorem q_pureT_8 : type_of% @pureT.eq_8 := @pureT.eq_8
@[local simp] theorem q_pureTo_1 : type_of% @pureTo.eq_1 := @pureTo.eq_1
@[local simp] theorem q_pureTo_2 : type_of% @pureTo.eq_2 := @pureTo.eq_2
@[local simp] theorem q_line_1 : type_of% @line.eq_1 := @line.eq_1
@[local simp] theorem q_rcv_1 : type_of% @rcv.eq_1 := @rcv.eq_1
@[local simp] theorem q_rcv_2 : type_of% @rcv.eq_2 := @rcv.eq_2
@[local simp] theorem q_rcv_3 : type_of% @rcv.eq_3 := @rcv.eq_3
@[local simp] theorem q_rcv_4 : type_of% @rcv.eq_4 := @rcv.eq_4
@[local simp] theorem q_rcv_5 : type_of% @rcv.eq_5 := @rcv.eq_5
@[local simp] theorem q_isTy_1 : type_of% @isTy.eq_1 := @isTy.eq_1
@[local simp] theorem q_isTy_2 : type_of% @isTy.eq_2 := @isTy.eq_2
@[local simp] theorem q_isTy_3 : type_of% @isTy.eq_3 := @isTy.eq_3
@[local simp] theorem q_isTy_4 : type_of% @isTy.eq_4 := @isTy.eq_4
@[local simp] theorem q_isTy_5 : type_of% @isTy.eq_5 := @isTy.eq_5
@[local simp] theorem q_isTy_6 : type_of% @isTy.eq_6 := @isTy.eq_6
@[local simp] theorem q_isTy_7 : type_of% @isTy.eq_7 := @isTy.eq_7
@[local simp] theorem q_isNon_1 : type_of% @isNon.eq_1 := @isNon.eq_1
@[local simp] theorem q_isNon_2 : type_of% @isNon.eq_2 := @isNon.eq_2
@[local simp] theorem q_isNon_3 : type_of% @isNon.eq_3 := @isNon.eq_3
@[local simp] theorem q_avD_1 : type_of% @avD.eq_1 := @avD.eq_1
@[local simp] theorem q_avD_2 : type_of% @avD.eq_2 := @avD.eq_2
@[local simp] theorem q_avD_3 : type_of% @avD.eq_3 := @avD.eq_3
@[local simp] theorem q_avDs_1 : type_of% @avDs.eq_1 := @avDs.eq_1
@[local simp] theorem q_avDs_2 : type_of% @avDs.eq_2 := @avDs.eq_2
@[local simp] theorem q_mvs_1 : type_of% @mvs.eq_1 := @mvs.eq_1
@[local simp] theorem q_mvs_2 : type_of% @mvs.eq_2 := @mvs.eq_2
@[local simp] theorem q_mvs_3 : type_of% @mvs.eq_3 := @mvs.eq_3
@[local simp] theorem q_bors_1 : type_of% @bors.eq_1 := @bors.eq_1
@[local simp] theorem q_bors_2 : type_of% @bors.eq_2 := @bors.eq_2
@[local simp] theorem q_bors_3 : type_of% @bors.eq_3 := @bors.eq_3
@[local simp] theorem q_nodupB_1 : type_of% @nodupB.eq_1 := @nodupB.eq_1
@[local simp] theorem q_nodupB_2 : type_of% @nodupB.eq_2 := @nodupB.eq_2
@[local simp] theorem q_setMs_1 : type_of% @setMs.eq_1 := @setMs.eq_1
@[local simp] theorem q_setMs_2 : type_of% @setMs.eq_2 := @setMs.eq_2
@[local simp] theorem q_setMs_3 : type_of% @setMs.eq_3 := @setMs.eq_3
@[local simp] theorem q_okAV_1 : type_of% @okAV.eq_1 := @okAV.eq_1
@[local simp] theorem q_lent_1 : type_of% @lent.eq_1 := @lent.eq_1
@[local simp] theorem q_called_1 : type_of% @called.eq_1 := @called.eq_1
@[local simp] theorem q_made_1 : type_of% @made.eq_1 := @made.eq_1
@[local simp] theorem q_setN_1 : type_of% @setN.eq_1 := @setN.eq_1
@[local simp] theorem q_setN_2 : type_of% @setN.eq_2 := @setN.eq_2
@[local simp] theorem q_setN_3 : type_of% @setN.eq_3 := @setN.eq_3
@[local simp] theorem q_MG_slots_1 : type_of% @MG.slots.eq_1 := @MG.slots.eq_1
@[local simp] theorem q_MG_slots_2 : type_of% @MG.slots.eq_2 := @MG.slots.eq_2
@[local simp] theorem q_MG_slots_3 : type_of% @MG.slots.eq_3 := @MG.slots.eq_3
@[local simp] theorem q_MG_slots_4 : type_of% @MG.slots.eq_4 := @MG.slots.eq_4
@[local simp] theorem q_updD_1 : type_of% @updD.eq_1 := @updD.eq_1
@[local simp] theorem q_updD_2 : type_of% @updD.eq_2 := @updD.eq_2
@[local simp] theorem q_updD_3 : type_of% @updD.eq_3 := @updD.eq_3
@[local simp] theorem q_updD_4 : type_of% @updD.eq_4 := @updD.eq_4
@[local simp] theorem q_getP_1 : type_of% @getP.eq_1 := @getP.eq_1
@[local simp] theorem q_getP_2 : type_of% @getP.eq_2 := @getP.eq_2
@[local simp] theorem q_getP_3 : type_of% @getP.eq_3 := @getP.eq_3
@[local simp] theorem q_getP_4 : type_of% @getP.eq_4 := @getP.eq_4
@[local simp] theorem q_getD1_1 : type_of% @getD1.eq_1 := @getD1.eq_1
@[local simp] theorem q_getD1_2 : type_of% @getD1.eq_2 := @getD1.eq_2
@[local simp] theorem q_getD1_3 : type_of% @getD1.eq_3 := @getD1.eq_3
@[local simp] theorem q_mvals_1 : type_of% @mvals.eq_1 := @mvals.eq_1
@[local simp] theorem q_mvals_2 : type_of% @mvals.eq_2 := @mvals.eq_2
@[local simp] theorem q_flat_1 : type_of% @flat.eq_1 := @flat.eq_1
@[local simp] theorem q_flat_2 : type_of% @flat.eq_2 := @flat.eq_2
@[local simp] theorem q_flat_3 : type_of% @flat.eq_3 := @flat.eq_3
@[local simp] theorem q_flat_4 : type_of% @flat.eq_4 := @flat.eq_4
@[local simp] theorem q_flat_5 : type_of% @flat.eq_5 := @flat.eq_5
@[local simp] theorem q_frz_1 : type_of% @frz.eq_1 := @frz.eq_1
@[local simp] theorem q_frz_2 : type_of% @frz.eq_2 := @frz.eq_2
@[local simp] theorem q_frz_3 : type_of% @frz.eq_3 := @frz.eq_3
@[local simp] theorem q_frz_4 : type_of% @frz.eq_4 := @frz.eq_4
@[local simp] theorem q_frz_5 : type_of% @frz.eq_5 := @frz.eq_5
@[local simp] theorem q_frz_6 : type_of% @frz.eq_6 := @frz.eq_6
@[local simp] theorem q_frz_7 : type_of% @frz.eq_7 := @frz.eq_7
@[local simp] theorem q_frz_8 : type_of% @frz.eq_8 := @frz.eq_8
@[local simp] theorem q_frz_9 : type_of% @frz.eq_9 := @frz.eq_9
@[local simp] theorem q_frz_10 : type_of% @frz.eq_10 := @frz.eq_10
@[local simp] theorem q_frz_11 : type_of% @frz.eq_11 := @frz.eq_11
@[local simp] theorem q_frz_12 : type_of% @frz.eq_12 := @frz.eq_12
@[local simp] theorem q_frzs_1 : type_of% @frzs.eq_1 := @frzs.eq_1
@[local simp] theorem q_frzs_2 : type_of% @frzs.eq_2 := @frzs.eq_2
@[local simp] theorem q_still_1 : type_of% @still.eq_1 := @still.eq_1
@[local simp] theorem q_still_2 : type_of% @still.eq_2 := @still.eq_2
@[local simp] theorem q_still_3 : type_of% @still.eq_3 := @still.eq_3
@[local simp] theorem q_still_4 : type_of% @still.eq_4 := @still.eq_4
@[local simp] theorem q_still_5 : type_of% @still.eq_5 := @still.eq_5
@[local simp] theorem q_stills_1 : type_of% @stills.eq_1 := @stills.eq_1
@[local simp] theorem q_stills_2 : type_of% @stills.eq_2 := @stills.eq_2
@[local simp] theorem q_noL_1 : type_of% @noL.eq_1 := @noL.eq_1
@[local simp] theorem q_noL_2 : type_of% @noL.eq_2 := @noL.eq_2
@[local simp] theorem q_noL_3 : type_of% @noL.eq_3 := @noL.eq_3
@[local simp] theorem q_noL_4 : type_of% @noL.eq_4 := @noL.eq_4
@[local simp] theorem q_noL_5 : type_of% @noL.eq_5 := @noL.eq_5
@[local simp] theorem q_noL_6 : type_of% @noL.eq_6 := @noL.eq_6
@[local simp] theorem q_noL_7 : type_of% @noL.eq_7 := @noL.eq_7
@[local simp] theorem q_noL_8 : type_of% @noL.eq_8 := @noL.eq_8
@[local simp] theorem q_noL_9 : type_of% @noL.eq_9 := @noL.eq_9
@[local simp] theorem q_noLs_1 : type_of% @noLs.eq_1 := @noLs.eq_1
@[local simp] theorem q_noLs_2 : type_of% @noLs.eq_2 := @noLs.eq_2
@[local simp] theorem q_rd_1 : type_of% @rd.eq_1 := @rd.eq_1
@[local simp] theorem q_toPD_1 : type_of% @toPD.eq_1 := @toPD.eq_1
@[local simp] theorem q_toPD_2 : type_of% @toPD.eq_2 := @toPD.eq_2
@[local simp] theorem q_toPD_3 : type_of% @toPD.eq_3 := @toPD.eq_3
@[local simp] theorem q_toPD_4 : type_of% @toPD.eq_4 := @toPD.eq_4
@[local simp] theorem q_toPD_5 : type_of% @toPD.eq_5 := @toPD.eq_5
@[local simp] theorem q_toPD_6 : type_of% @toPD.eq_6 := @toPD.eq_6
@[local simp] theorem q_toPD_7 : type_of% @toPD.eq_7 := @toPD.eq_7
@[local simp] theorem q_toPD_8 : type_of% @toPD.eq_8 := @toPD.eq_8
@[local simp] theorem q_toPD_9 : type_of% @toPD.eq_9 := @toPD.eq_9
@[local simp] theorem q_toPD_10 : type_of% @toPD.eq_10 := @toPD.eq_10
@[local simp] theorem q_toPD_11 : type_of% @toPD.eq_11 := @toPD.eq_11
@[local simp] theorem q_toPD_12 : type_of% @toPD.eq_12 := @toPD.eq_12
@[local simp] theorem q_toPDs_1 : type_of% @toPDs.eq_1 := @toPDs.eq_1
@[local simp] theorem q_toPDs_2 : type_of% @toPDs.eq_2 := @toPDs.eq_2
@[local simp] theorem q_intsOf_1 : type_of% @intsOf.eq_1 := @intsOf.eq_1
@[local simp] theorem q_intsOf_2 : type_of% @intsOf.eq_2 := @intsOf.eq_2
@[local simp] theorem q_intsOf_3 : type_of% @intsOf.eq_3 := @intsOf.eq_3
@[local simp] theorem q_lstP_1 : type_of% @lstP.eq_1 := @lstP.eq_1
@[local simp] theorem q_methOf_1 : type_of% @methOf.eq_1 := @methOf.eq_1
@[local simp] theorem q_methOf_2 : type_of% @methOf.eq_2 := @methOf.eq_2
/-- what comes next, where simp does not look -/
class Kf (γ : Type) where
  k : γ
def sq (r : Fl) [k : Kf (SA → Fl)] : Fl := match r with
  | .nx s => k.k s
  | r => r
@[local simp] theorem sq_nx {s : SA} {k : SA → Fl} : @sq (.nx s) ⟨k⟩ = k s := rfl
@[local simp] theorem sq_ct {s : SA} {k : SA → Fl} : @sq (.ct s) ⟨k⟩ = .ct s := rfl
@[local simp] theorem sq_bk {s : SA} {k : SA → Fl} : @sq (.bk s) ⟨k⟩ = .bk s := rfl
@[local simp] theorem sq_rt {s : SA} {d : D} {k : SA → Fl} : @sq (.rt d s) ⟨k⟩ = .rt d s := rfl
@[local simp] theorem sq_rz {s : SA} {c : Nat} {k : SA → Fl} : @sq (.rz c s) ⟨k⟩ = .rz c s := rfl
@[local simp] theorem sq_bad {k : SA → Fl} : @sq .bad ⟨k⟩ = .bad := rfl
@[local simp] theorem exs_nil {s : SA} {G : Env0A} {W : Nat} {fix : List Nat} : exs G W fix .nil s = .nx s := by rw [exs]
@[local simp] theorem exs_cons {s : SA} {G : Env0A} {W : Nat} {fix : List Nat} {t : MS} {ts : MSs} : exs G W fix (.cons t ts) s = @sq (ex G W fix t s) ⟨fun s1 => exs G W fix ts s1⟩ := by rw [exs]; cases ex G W fix t s <;> rfl
def bI {α : Type} {β : Type} (x : Er α) [k : Kf (α → SA → Er β)] : Er β := x.bind k.k
@[local simp ↓] theorem bI_in {α : Type} {β : Type} {x : Er α} {f : α → SA → Er β} : x.bind f = @bI α β x ⟨f⟩ := rfl
@[local simp] theorem bind_ok {α : Type} {β : Type} {a : α} {s : SA} {f : α → SA → Er β} : @bI α β (Er.ok a s) ⟨f⟩ = f a s := rfl
@[local simp] theorem bind_rz {α : Type} {β : Type} {s : SA} {c : Nat} {f : α → SA → Er β} : @bI α β (Er.rz c s) ⟨f⟩ = .rz c s := rfl
@[local simp] theorem bind_bad {α : Type} {β : Type} {f : α → SA → Er β} : @bI α β Er.bad ⟨f⟩ = .bad := rfl
def fI {α : Type} (x : Er α) [k : Kf (α → SA → Fl)] : Fl := x.fl k.k
@[local simp ↓] theorem fI_in {α : Type} {x : Er α} {f : α → SA → Fl} : x.fl f = @fI α x ⟨f⟩ := rfl
@[local simp] theorem fl_ok {α : Type} {a : α} {s : SA} {f : α → SA → Fl} : @fI α (Er.ok a s) ⟨f⟩ = f a s := rfl
@[local simp] theorem fl_rz {α : Type} {s : SA} {c : Nat} {f : α → SA → Fl} : @fI α (Er.rz c s) ⟨f⟩ = .rz c s := rfl
@[local simp] theorem fl_bad {α : Type} {f : α → SA → Fl} : @fI α Er.bad ⟨f⟩ = .bad := rfl
def oI {α : Type} {β : Type} (x : Option α) [k : Kf (α → Option β)] : Option β := x.bind k.k
@[local simp ↓] theorem oI_in {α : Type} {β : Type} {x : Option α} {f : α → Option β} : x.bind f = @oI α β x ⟨f⟩ := rfl
@[local simp] theorem oI_some {α : Type} {β : Type} {a : α} {f : α → Option β} : @oI α β (some a) ⟨f⟩ = f a := rfl
@[local simp] theorem oI_none {α : Type} {β : Type} {f : α → Option β} : @oI α β none ⟨f⟩ = none := rfl
@[local simp] theorem of_some {α : Type} {a : α} {s : SA} : Er.of (some a) s = .ok a s := rfl
@[local simp] theorem of_none {α : Type} {s : SA} : Er.of (none : Option α) s = .bad := rfl
@[local simp] theorem noRz_okS {α : Type} {a : α} {s : SA} : (Er.ok a s).noRz = .ok a s := rfl
@[local simp] theorem flof_some {s : SA} : Fl.of (some s) = .nx s := rfl
@[local simp] theorem flof_none : Fl.of none = .bad := rfl
@[local simp] theorem own_true {s : SA} {d : D} {r : Option Nat} : own true r d s = .ok d s := rfl
theorem own_still {s : SA} {d : D} {v : Bool} {r : Option Nat} (h : still d = true) : own v r d s = .ok d s := by simp [own, h]
@[local simp] theorem own_int {s : SA} {i : Int} {v : Bool} {r : Option Nat} : own v r (.int i) s = .ok (.int i) s := own_still rfl
@[local simp] theorem own_bl {s : SA} {v : Bool} {r : Option Nat} {b : Bool} : own v r (.bl b) s = .ok (.bl b) s := own_still rfl
@[local simp] theorem own_non {s : SA} {v : Bool} {r : Option Nat} : own v r .non s = .ok .non s := own_still rfl
@[local simp] theorem own_str {s : SA} {v : Bool} {r : Option Nat} {x : Str} : own v r (.str x) s = .ok (.str x) s := own_still rfl
@[local simp] theorem own_scr {s : SA} {v : Bool} {r : Option Nat} {x : List Int} : own v r (.scr x) s = .ok (.scr x) s := own_still rfl
@[local simp] theorem own_tup {s : SA} {ds : List D} {v : Bool} {r : Option Nat} : own v r (.tup ds) s = .ok (.tup ds) s := own_still rfl
@[local simp] theorem own_lf {s : SA} {ds : List D} {v : Bool} {r : Option Nat} (h : stills ds = true) : own v r (.lst false ds) s = .ok (.lst false ds) s := own_still (by simp [still, h])
@[local simp] theorem own_if {s : SA} {ds : List D} {v : Bool} {r : Option Nat} {c : Nat} (h : stills ds = true) : own v r (.ins false c ds) s = .ok (.ins false c ds) s := own_still (by simp [still, h])
@[local simp] theorem own_lt {s : SA} {ds : List D} {k : Nat} (h : rd s k = some (.lst true ds)) : own false (some k) (.lst true ds) s = .ok (.lst false (frzs ds)) (s.set k (some (.lst false (frzs ds)))) := by simp only [own, still, Bool.not_true, Bool.false_and, Bool.or_self, Bool.false_eq_true, if_false, h, frz]
@[local simp] theorem own_it {s : SA} {ds : List D} {k c : Nat} (h : rd s k = some (.ins true c ds)) : own false (some k) (.ins true c ds) s = .ok (.ins false c (frzs ds)) (s.set k (some (.ins false c (frzs ds)))) := by simp only [own, still, Bool.not_true, Bool.false_and, Bool.or_self, Bool.false_eq_true, if_false, h, frz]
@[local simp] theorem asgG_name {s : SA} {d : D} {k : Nat} : asgG (.name k) d s = some (s.set k (some d)) := rfl
@[local simp] theorem asgG_pair {s : SA} {ds : List D} {k l : Nat} : asgG (.pair k l) (.tup ds) s = setN s [k, l] ds := rfl
@[local simp] theorem asgG_trip {s : SA} {ds : List D} {k l n : Nat} : asgG (.trip k l n) (.tup ds) s = setN s [k, l, n] ds := rfl
@[local simp] theorem asgG_quad {s : SA} {ds : List D} {k l n o : Nat} : asgG (.quad k l n o) (.tup ds) s = setN s [k, l, n, o] ds := rfl
@[local simp] theorem add_int {i : Int} {j : Int} : bin .add (.int i) (.int j) = some (.int (i + j)) := rfl
@[local simp] theorem add_tup {ds : List D} {es : List D} : bin .add (.tup ds) (.tup es) = if ds.length + es.length ≤ sizeLine then some (.tup (ds ++ es)) else none := rfl
@[local simp] theorem add_lst {ds : List D} {es : List D} {m : Bool} {m' : Bool} : bin .add (.lst m ds) (.lst m' es) = if stills ds && stills es && decide (ds.length + es.length ≤ sizeLine) then some (.lst true (ds ++ es)) else none := rfl
@[local simp] theorem sub_int {i : Int} {j : Int} : bin .sub (.int i) (.int j) = some (.int (i - j)) := rfl
@[local simp] theorem mul_int {i : Int} {j : Int} : bin .mul (.int i) (.int j) = if small64i i || small64i j then some (.int (i * j)) else none := rfl
@[local simp] theorem mul_lst {ds : List D} {m : Bool} {j : Int} : bin .mul (.lst m ds) (.int j) = if stills ds && decide (-(2 ^ 63) ≤ j ∧ j < 2 ^ 63 ∧ ds.length * j.toNat ≤ sizeLine) then some (.lst true (List.replicate j.toNat ds).flatten) else none := rfl
@[local simp] theorem fdiv_int {i : Int} {j : Int} : bin .fdiv (.int i) (.int j) = if decide (0 < j ∧ j < 1073741824) then some (.int (i / j)) else none := rfl
@[local simp] theorem mod_int {i : Int} {j : Int} : bin .mod (.int i) (.int j) = if decide (0 < j) then some (.int (i % j)) else none := rfl
@[local simp] theorem pow_int {i : Int} {j : Int} : bin .pow (.int i) (.int j) = if decide (0 ≤ j ∧ j ≤ 1000000 ∧ i.natAbs < 2 ^ 64) then some (.int (i ^ j.toNat)) else none := rfl
@[local simp] theorem shl_int {i : Int} {j : Int} : bin .shl (.int i) (.int j) = if decide (0 ≤ j ∧ j ≤ 1000000 ∧ i.natAbs < 2 ^ 64) then some (.int (i * 2 ^ j.toNat)) else none := rfl
@[local simp] theorem shr_int {i : Int} {j : Int} : bin .shr (.int i) (.int j) = if decide (0 ≤ j) then some (.int (i / 2 ^ j.toNat)) else none := rfl
@[local simp] theorem band_int {i : Int} {j : Int} : bin .band (.int i) (.int j) = some (.int (Builtin.bitAnd i j)) := rfl
@[local simp] theorem bor_int {i : Int} {j : Int} : bin .bor (.int i) (.int j) = some (.int (Builtin.bitOr i j)) := rfl
@[local simp] theorem neg_int {i : Int} : un .neg (.int i) = some (.int (-i)) := rfl
@[local simp] theorem inv_int {i : Int} : un .inv (.int i) = some (.int (Builtin.bitNot i)) := rfl
@[local simp] theorem isn_t {d : D} : isn true d = !isNon d := rfl
@[local simp] theorem isn_f {d : D} : isn false d = isNon d := rfl
@[local simp] theorem tru_int {i : Int} : truD (.int i) = some (i != 0) := rfl
@[local simp] theorem tru_lst {ds : List D} {m : Bool} : truD (.lst m ds) = some (!ds.isEmpty) := rfl
@[local simp] theorem tru_tup {ds : List D} : truD (.tup ds) = some (!ds.isEmpty) := rfl
@[local simp] theorem items_lst {ds : List D} {m : Bool} : itemsOf (.lst m ds) = some ds := rfl
@[local simp] theorem items_tup {ds : List D} : itemsOf (.tup ds) = some ds := rfl
@[local simp] theorem getIx_lst {ds : List D} {m : Bool} {i : Int} : getIx (.lst m ds) i = atI ds i := rfl
@[local simp] theorem getIx_tup {ds : List D} {i : Int} : getIx (.tup ds) i = atI ds i := rfl
@[local simp] theorem getIx_scr {i : Int} {x : List Int} : getIx (.scr x) i = (atI x i).map D.int := rfl
@[local simp] theorem getFd_ins {ds : List D} {m : Bool} {c k : Nat} : getFd (.ins m c ds) k = (fldIx c k).bind fun j => ds[j]? := rfl
@[local simp] theorem fld00 : fldIx 0 0 = some 0 := rfl
@[local simp] theorem fld01 : fldIx 0 1 = some 1 := rfl
@[local simp] theorem cutD_tup {ds : List D} {lo hi : Option Int} : cutD (.tup ds) lo hi = some (.tup (cut ds lo hi)) := rfl
@[local simp] theorem cutD_lst {ds : List D} {m : Bool} {lo hi : Option Int} : cutD (.lst m ds) lo hi = if stills ds then some (.lst true (cut ds lo hi)) else none := rfl
@[local simp] theorem cmp_eq {a b : D} (ha : plain a = true) (hb : plain b = true) : cmp .eq a b = some (eqD a b) := by simp [cmp, ha, hb]
@[local simp] theorem cmp_ne {a b : D} (ha : plain a = true) (hb : plain b = true) : cmp .ne a b = some (!eqD a b) := by simp [cmp, ha, hb]
@[local simp] theorem cmp_lt {i : Int} {j : Int} : cmp .lt (.int i) (.int j) = some (decide (i < j)) := rfl
@[local simp] theorem cmp_ltt {ds : List D} {es : List D} : cmp .lt (.tup ds) (.tup es) = (intsOf ds).bind fun is => (intsOf es).map fun js => HT.lexLt is js := rfl
@[local simp] theorem cmp_le {i : Int} {j : Int} : cmp .le (.int i) (.int j) = some (decide (i ≤ j)) := rfl
@[local simp] theorem cmp_gt {i : Int} {j : Int} : cmp .gt (.int i) (.int j) = some (decide (j < i)) := rfl
@[local simp] theorem cmp_ge {i : Int} {j : Int} : cmp .ge (.int i) (.int j) = some (decide (j ≤ i)) := rfl
@[local simp] theorem cmp_in {ds : List D} {m : Bool} {a : D} (ha : plain a = true) (hb : plains ds = true) : cmp .inn a (.lst m ds) = some (memD a ds) := by simp [cmp, itemsOf, ha, hb]
@[local simp] theorem cmp_int {ds : List D} {a : D} (ha : plain a = true) (hb : plains ds = true) : cmp .inn a (.tup ds) = some (memD a ds) := by simp [cmp, itemsOf, ha, hb]
@[local simp] theorem cmp_nin {ds : List D} {m : Bool} {a : D} (ha : plain a = true) (hb : plains ds = true) : cmp .nin a (.lst m ds) = some (!memD a ds) := by simp [cmp, itemsOf, ha, hb]
@[local simp] theorem cmp_nint {ds : List D} {a : D} (ha : plain a = true) (hb : plains ds = true) : cmp .nin a (.tup ds) = some (!memD a ds) := by simp [cmp, itemsOf, ha, hb]
@[local simp] theorem len_lst {ds : List D} {m : Bool} : bi1 .len (.lst m ds) = some (.int ds.length) := rfl
@[local simp] theorem len_tup {ds : List D} : bi1 .len (.tup ds) = some (.int ds.length) := rfl
@[local simp] theorem len_scr {x : List Int} : bi1 .len (.scr x) = some (.int x.length) := rfl
@[local simp] theorem list_scr {x : List Int} : bi1 .list (.scr x) = some (.lst true (x.map .int)) := rfl
@[local simp] theorem list_lst {ds : List D} {m : Bool} : bi1 .list (.lst m ds) = if stills ds then some (.lst true ds) else none := rfl
@[local simp] theorem list_tup {ds : List D} : bi1 .list (.tup ds) = if stills ds then some (.lst true ds) else none := rfl
@[local simp] theorem tuple_lst {ds : List D} {m : Bool} : bi1 .tuple (.lst m ds) = if stills ds then some (.tup ds) else none := rfl
@[local simp] theorem tuple_tup {ds : List D} : bi1 .tuple (.tup ds) = if stills ds then some (.tup ds) else none := rfl
theorem sorted_lst {ds : List D} {m : Bool} : bi1 .sorted (.lst m ds) = if stills ds && (sortable ds || decide (ds.length ≤ 1)) then some (.lst true (sortD ds)) else none := rfl
@[local simp] theorem int_int {i : Int} : bi1 .int (.int i) = some (.int i) := rfl
@[local simp] theorem int_bl {b : Bool} : bi1 .int (.bl b) = some (.int (if b then 1 else 0)) := rfl
@[local simp] theorem sum_lst {ds : List D} {m : Bool} : bi1 .sum (.lst m ds) = (intsOf ds).map fun is => .int is.sum := rfl
@[local simp] theorem max_lst {ds : List D} {m : Bool} : bi1 .max (.lst m ds) = (intsOf ds).bind fun is => (maxI is).map D.int := rfl
@[local simp] theorem min_lst {ds : List D} {m : Bool} : bi1 .min (.lst m ds) = (intsOf ds).bind fun is => (minI is).map D.int := rfl
@[local simp] theorem abs_int {i : Int} : bi1 .abs (.int i) = some (.int (if i < 0 then -i else i)) := rfl
theorem sset_lst {ds : List D} {m : Bool} : bi1 .sset (.lst m ds) = (intsOf ds).bind fun is => if is.length < 64 then some (.lst true ((sset is).map .int)) else none := rfl
theorem sset_tup {ds : List D} : bi1 .sset (.tup ds) = (intsOf ds).bind fun is => if is.length < 64 then some (.lst true ((sset is).map .int)) else none := rfl
@[local simp] theorem max2 {i : Int} {j : Int} : bi2 .max (.int i) (.int j) = some (.int (if j > i then j else i)) := rfl
@[local simp] theorem min2 {i : Int} {j : Int} : bi2 .min (.int i) (.int j) = some (.int (if j < i then j else i)) := rfl
/-! dicts -/
@[local simp] theorem isDic_dic {m : Bool} {t : Nat} {ks ds : List D} : isDic (.dic m t ks ds) = true := rfl
@[local simp] theorem getK_dic {m : Bool} {t : Nat} {ks ds : List D} {k : D} : getK (.dic m t ks ds) k = if kOk t k then dval ks ds k else none := rfl
@[local simp] theorem getKD_dic {m : Bool} {t : Nat} {ks ds : List D} {k x : D} : getKD (.dic m t ks ds) k x = if kOk t k then some ((dval ks ds k).getD x) else none := rfl
@[local simp] theorem isB_bl {b c : Bool} : isB b (.bl c) = some (.bl (decide (c = b))) := rfl
@[local simp] theorem cmp_ind {a : D} {m : Bool} {t : Nat} {ks ds : List D} (h : kOk t a = true) : cmp .inn a (.dic m t ks ds) = some (memD a ks) := by simp [cmp, h]
@[local simp] theorem cmp_nind {a : D} {m : Bool} {t : Nat} {ks ds : List D} (h : kOk t a = true) : cmp .nin a (.dic m t ks ds) = some (!memD a ks) := by simp [cmp, h]
@[local simp] theorem kOk_int {i : Int} : kOk 0 (.int i) = true := rfl
@[local simp] theorem own_df {s : SA} {t : Nat} {ks ds : List D} {v : Bool} {r : Option Nat} (h : stills ds = true) : own v r (.dic false t ks ds) s = .ok (.dic false t ks ds) s := own_still (by simp [still, h])
@[local simp] theorem own_dt {s : SA} {t : Nat} {ks ds : List D} {k : Nat} (h : rd s k = some (.dic true t ks ds)) : own false (some k) (.dic true t ks ds) s = .ok (.dic false t ks (frzs ds)) (s.set k (some (.dic false t ks (frzs ds)))) := by simp only [own, still, Bool.not_true, Bool.false_and, Bool.or_self, Bool.false_eq_true, if_false, h, frz]
def mres (o : Option (List D)) (k : List D → Res) : Res := match o with
  | some ms => k ms
  | none => .bad
@[local simp] theorem mres_some {ms : List D} {k : List D → Res} : mres (some ms) k = k ms := rfl
@[local simp] theorem res_nx {s : SA} {fix : List Nat} : resOf fix (.nx s) = mres (mvals s fix) (.ok .non) := rfl
@[local simp] theorem res_rt {s : SA} {d : D} {fix : List Nat} : resOf fix (.rt d s) = mres (mvals s fix) (.ok d) := rfl
@[local simp] theorem res_rz {s : SA} {fix : List Nat} {c : Nat} : resOf fix (.rz c s) = mres (mvals s fix) (.rz c) := rfl
@[local simp] theorem updS_def {s : SA} {k : Nat} {ks : List Key} {f : D → Option D} : updS k ks f s = (rd s k).bind fun d => (updD ks f d).map fun d' => s.set k (some d') := rfl
@[local simp] theorem chkP_def {s : SA} {q : Nat × List Key} : chkP q s = match (rd s q.1).bind (getP q.2) with | some _ => .ok q s | none => .bad := rfl
@[local simp] theorem fSet_lst {ds : List D} {i : Int} {x : D} : fSet i x (.lst true ds) = (ixN ds.length i).map fun j => .lst true (ds.set j x) := rfl
@[local simp] theorem fApp_lst {ds : List D} {x : D} : fApp x (.lst true ds) = if line ds.length then some (.lst true (ds ++ [x])) else none := rfl
@[local simp] theorem fExt_lst {ds : List D} {es : List D} : fExt es (.lst true ds) = if stills es && decide (ds.length + es.length ≤ sizeLine) then some (.lst true (ds ++ es)) else none := rfl
@[local simp] theorem fRev_lst {ds : List D} : fRev (.lst true ds) = some (.lst true ds.reverse) := rfl
@[local simp] theorem fFld_ins {ds : List D} {c k : Nat} {x : D} : fFld k x (.ins true c ds) = (fldIx c k).bind fun j => if j < ds.length then some (.ins true c (ds.set j x)) else if j = ds.length then some (.ins true c (ds ++ [x])) else none := rfl
@[local simp] theorem aug_add {i : Int} {j : Int} : augD .add (.int i) (.int j) = some (.int (i + j)) := rfl
@[local simp] theorem aug_sub {i : Int} {j : Int} : augD .sub (.int i) (.int j) = some (.int (i - j)) := rfl

@[local simp] theorem frzs_app (a b : List D) : frzs (a ++ b) = frzs a ++ frzs b := by
  induction a with
  | nil => rfl
  | cons d a ih => simp [ih]
@[local simp] theorem stills_app (a b : List D) : stills (a ++ b) = (stills a && stills b) := by
  induction a with
  | nil => rfl
  | cons d a ih => simp [ih, Bool.and_assoc]
@[local simp] theorem noLs_app (a b : List D) : noLs (a ++ b) = (noLs a && noLs b) := by
  induction a with
  | nil => rfl
  | cons d a ih => simp [ih, Bool.and_assoc]
@[local simp] theorem intsOf_app (a b : List D) : intsOf (a ++ b) = (intsOf a).bind fun x => (intsOf b).map fun y => x ++ y := by
  induction a with
  | nil => simp
  | cons d a ih =>
    cases d <;> simp [ih]
    cases intsOf a <;> cases intsOf b <;> simp
class En {α : Type} [DecidableEq α] (f : α → D) : Prop where
  frz : ∀ a, frz (f a) = f a
  still : ∀ a, still (f a) = true
  noL : ∀ a, noL (f a) = true
  plain0 : ∀ a, plain0 (f a) = true
  depth : ∀ a, (toPD (f a)).depth ≤ 10
  eq : ∀ a b, PySem.PyData.eqv (toPD (f a)) (toPD (f b)) = decide (a = b)
def dN (n : Nat) : D := .int n
@[local simp] theorem dN_ap (n : Nat) : dN n = .int n := rfl
def tN (l : List Nat) : D := .tup (l.map dN)
@[local simp] theorem tN_ap (l : List Nat) : tN l = .tup (l.map dN) := rfl
instance : En D.int where
  frz _ := rfl
  still _ := rfl
  noL _ := rfl
  plain0 _ := rfl
  depth _ := by simp [PySem.PyData.depth]
  eq a b := by simp only [toPD, PySem.PyData.eqv]; by_cases h : a = b <;> simp [h]
instance : En D.bl where
  frz _ := rfl
  still _ := rfl
  noL _ := rfl
  plain0 _ := rfl
  depth _ := by simp [PySem.PyData.depth]
  eq a b := by simp only [toPD, PySem.PyData.eqv]; cases a <;> cases b <;> rfl
instance : En dN where
  frz _ := rfl
  still _ := rfl
  noL _ := rfl
  plain0 _ := rfl
  depth _ := by simp [PySem.PyData.depth]
  eq a b := by
    simp only [dN_ap, toPD, PySem.PyData.eqv]
    by_cases h : a = b
    · simp [h]
    · have : ¬ (a : Int) = (b : Int) := by omega
      simp [h, this]
@[local simp] theorem frzs_map {α : Type} [DecidableEq α] {f : α → D} [En f] (l : List α) : frzs (l.map f) = l.map f := by
  induction l with
  | nil => rfl
  | cons a l ih => simp [ih, En.frz]
@[local simp] theorem stills_map {α : Type} [DecidableEq α] {f : α → D} [En f] (l : List α) : stills (l.map f) = true := by
  induction l with
  | nil => rfl
  | cons a l ih => simp [ih, En.still]
@[local simp] theorem noLs_map {α : Type} [DecidableEq α] {f : α → D} [En f] (l : List α) : noLs (l.map f) = true := by
  induction l with
  | nil => rfl
  | cons a l ih => simp [ih, En.noL]
theorem plains0_map {α : Type} [DecidableEq α] {f : α → D} [En f] (l : List α) : plains0 (l.map f) = true := by
  induction l with
  | nil => rfl
  | cons a l ih => simp [plains0, ih, En.plain0]
theorem depthAll_map {α : Type} [DecidableEq α] {f : α → D} [En f] (l : List α) : PySem.PyData.depthAll (toPDs (l.map f)) ≤ 10 := by
  induction l with
  | nil => simp [PySem.PyData.depthAll]
  | cons a l ih =>
    simp only [List.map_cons, toPDs, PySem.PyData.depthAll]
    exact Nat.max_le.mpr ⟨En.depth a, ih⟩
@[local simp] theorem plains_map {α : Type} [DecidableEq α] {f : α → D} [En f] (l : List α) : plains (l.map f) = true := by
  have := depthAll_map (f := f) l
  simp only [plains, plains0_map, Bool.true_and, decide_eq_true_eq]; omega
@[local simp] theorem plain_tupm {α : Type} [DecidableEq α] {f : α → D} [En f] (l : List α) : plain (.tup (l.map f)) = true := by
  have := depthAll_map (f := f) l
  simp only [plain, plain0, plains0_map, Bool.true_and, toPD, PySem.PyData.depth, decide_eq_true_eq]; omega
@[local simp] theorem plain_lstm {α : Type} [DecidableEq α] {f : α → D} [En f] (m : Bool) (l : List α) : plain (.lst m (l.map f)) = true := by
  have := depthAll_map (f := f) l
  simp only [plain, plain0, plains0_map, Bool.true_and, toPD, PySem.PyData.depth, decide_eq_true_eq]; omega
@[local simp] theorem plain_f {α : Type} [DecidableEq α] {f : α → D} [En f] (a : α) : plain (f a) = true := by
  have := En.depth (f := f) a
  simp only [plain, En.plain0, Bool.true_and, decide_eq_true_eq]; omega
theorem eqvAll_map {α : Type} [DecidableEq α] {f : α → D} [En f] : ∀ l m : List α, PySem.PyData.eqvAll (toPDs (l.map f)) (toPDs (m.map f)) = decide (l = m)
  | [], [] => by simp [PySem.PyData.eqvAll]
  | [], _ :: _ => by simp [PySem.PyData.eqvAll]
  | _ :: _, [] => by simp [PySem.PyData.eqvAll]
  | a :: l, b :: m => by
    simp only [List.map_cons, toPDs, PySem.PyData.eqvAll, En.eq, eqvAll_map l m]
    by_cases h : a = b <;> by_cases h' : l = m <;> simp [h, h']
@[local simp] theorem eqD_tupm {α : Type} [DecidableEq α] {f : α → D} [En f] (l m : List α) : eqD (.tup (l.map f)) (.tup (m.map f)) = decide (l = m) := by
  simp only [eqD, toPD, PySem.PyData.eqv]; exact eqvAll_map l m
@[local simp] theorem eqD_lstm {α : Type} [DecidableEq α] {f : α → D} [En f] (x y : Bool) (l m : List α) : eqD (.lst x (l.map f)) (.lst y (m.map f)) = decide (l = m) := by
  simp only [eqD, toPD, PySem.PyData.eqv]; exact eqvAll_map l m
theorem memD_map {α : Type} [DecidableEq α] {f : α → D} [En f] (a : α) (l : List α) [Decidable (a ∈ l)] : memD (f a) (l.map f) = decide (a ∈ l) := by
  have h : memD (f a) (l.map f) = true ↔ a ∈ l := by
    simp only [memD, List.any_map, List.any_eq_true, Function.comp, eqD, En.eq, decide_eq_true_eq]
    exact ⟨fun ⟨x, hx, e⟩ => e ▸ hx, fun h => ⟨a, h, rfl⟩⟩
  by_cases h' : a ∈ l
  · rw [decide_eq_true h']; exact h.mpr h'
  · rw [decide_eq_false h']; cases e : memD (f a) (l.map f)
    · rfl
    · exact absurd (h.mp e) h'
def lT {α : Type} (f : α → D) (l : List α) : D := .lst false (l.map f)
@[local simp] theorem lT_ap {α : Type} (f : α → D) (l : List α) : lT f l = .lst false (l.map f) := rfl
instance : En tN where
  frz _ := rfl
  still _ := rfl
  noL l := by simp
  plain0 l := by simp [plain0, plains0_map]
  depth l := by
    have : ∀ l : List Nat, PySem.PyData.depthAll (toPDs (l.map dN)) ≤ 1 := by
      intro l
      induction l with
      | nil => simp [PySem.PyData.depthAll]
      | cons a l ih => simp only [List.map_cons, toPDs, PySem.PyData.depthAll, dN_ap, toPD, PySem.PyData.depth]; omega
    have := this l
    simp only [tN_ap, toPD, PySem.PyData.depth]; omega
  eq a b := by simp only [tN_ap, toPD, PySem.PyData.eqv]; exact eqvAll_map a b
@[local simp] theorem eqD_int (i j : Int) : eqD (.int i) (.int j) = decide (i = j) := En.eq (f := D.int) i j
@[local simp] theorem eqD_bl (i j : Bool) : eqD (.bl i) (.bl j) = decide (i = j) := En.eq (f := D.bl) i j
@[local simp] theorem eqD_tl (x : Bool) (a b : List D) : eqD (.tup a) (.lst x b) = false := by simp only [eqD, toPD, PySem.PyData.eqv]
@[local simp] theorem eqD_lt (x : Bool) (a b : List D) : eqD (.lst x b) (.tup a) = false := by simp only [eqD, toPD, PySem.PyData.eqv]
@[local simp] theorem plain_int (i : Int) : plain (.int i) = true := plain_f (f := D.int) i
@[local simp] theorem plain_bl (i : Bool) : plain (.bl i) = true := plain_f (f := D.bl) i
@[local simp] theorem memD_dN (a : Nat) (l : List Nat) : memD (.int a) (l.map dN) = decide (a ∈ l) := memD_map (f := dN) a l
@[local simp] theorem memD_int (a : Int) (l : List Int) : memD (.int a) (l.map D.int) = decide (a ∈ l) := memD_map (f := D.int) a l
@[local simp] theorem memD_tN (a : List Nat) (l : List (List Nat)) : memD (.tup (a.map dN)) (l.map tN) = decide (a ∈ l) := memD_map (f := tN) a l
@[local simp] theorem atI_natq {α : Type} (xs : List α) (k : Nat) : atI xs (k : Int) = xs[k]? := by
  by_cases h : k < xs.length
  · have : xs[k]? = some xs[k] := List.getElem?_eq_getElem h
    rw [atI_nat this, this]
  · rw [List.getElem?_eq_none (by omega)]
    simp only [atI, ixN]; rw [if_pos (by omega), if_neg (by omega)]; rfl
@[local simp] theorem ixN_natq (n k : Nat) : ixN n (k : Int) = if k < n then some k else none := by
  simp only [ixN]; rw [if_pos (by omega)]
  by_cases h : k < n
  · rw [if_pos (by omega), if_pos h]; simp
  · rw [if_neg (by omega), if_neg h]
@[local simp] theorem atI_zero {α : Type} (xs : List α) : atI xs 0 = xs[0]? := atI_natq xs 0
@[local simp] theorem atI_one {α : Type} (xs : List α) : atI xs 1 = xs[1]? := atI_natq xs 1
@[local simp] theorem ixN_zero (n : Nat) : ixN n 0 = if 0 < n then some 0 else none := ixN_natq n 0
@[local simp] theorem intsOf_int (l : List Int) : intsOf (l.map D.int) = some l := by
  induction l with
  | nil => rfl
  | cons a l ih => simp [ih]
@[local simp] theorem intsOf_dN (l : List Nat) : intsOf (l.map dN) = some (l.map fun (n : Nat) => (n : Int)) := by
  induction l with
  | nil => rfl
  | cons a l ih => simp [ih]
@[local simp] theorem rangeN_zero (n : Nat) : rangeN 0 n = (List.range n).map dN := by
  simp only [rangeN]; apply List.map_congr_left; intro a _; simp
@[local simp] theorem inR_nat {n : Nat} (h : n < 1000000) : inR (n : Int) = true := by
  simp only [inR, Nat.ble_eq]; omega
/-! Abm1: loops by their steps; the draws -/
def Nx (P : SA → Prop) : Fl → Prop
  | .nx s => P s
  | .ct s => P s
  | _ => False
def Sm (P : SA → Prop) : Option SA → Prop
  | some s => P s
  | none => False
theorem Nx_of {P : SA → Prop} {r : Fl} (h : Nx P r) : ∃ s, (r = .nx s ∨ r = .ct s) ∧ P s := by
  cases r <;> simp [Nx] at h
  · exact ⟨_, .inl rfl, h⟩
  · exact ⟨_, .inr rfl, h⟩
theorem Sm_of {P : SA → Prop} {r : Option SA} (h : Sm P r) : ∃ s, r = some s ∧ P s := by
  cases r <;> simp [Sm] at h
  exact ⟨_, rfl, h⟩
def NxI (r : Fl) [p : Kf (SA → Prop)] : Prop := Nx p.k r
@[local simp ↓] theorem NxI_in {P : SA → Prop} {x : Fl} : Nx P x = @NxI x ⟨P⟩ := rfl
@[local simp] theorem Nx_nx {P : SA → Prop} {s : SA} : @NxI (.nx s) ⟨P⟩ = P s := rfl
@[local simp] theorem Nx_ct {P : SA → Prop} {s : SA} : @NxI (.ct s) ⟨P⟩ = P s := rfl
@[local simp] theorem Nx_bad {P : SA → Prop} : @NxI .bad ⟨P⟩ = False := rfl
@[local simp] theorem Nx_rt {P : SA → Prop} {s : SA} {d : D} : @NxI (.rt d s) ⟨P⟩ = False := rfl
@[local simp] theorem Nx_bk {P : SA → Prop} {s : SA} : @NxI (.bk s) ⟨P⟩ = False := rfl
def SmI (r : Option SA) [p : Kf (SA → Prop)] : Prop := Sm p.k r
@[local simp ↓] theorem SmI_in {P : SA → Prop} {o : Option SA} : Sm P o = @SmI o ⟨P⟩ := rfl
@[local simp] theorem Sm_some {P : SA → Prop} {s : SA} : @SmI (some s) ⟨P⟩ = P s := rfl
@[local simp] theorem Sm_none {P : SA → Prop} : @SmI none ⟨P⟩ = False := rfl
/-- a for over typed things -/
theorem for_ok {α : Type} {st : SA → Fl} {g : MG} (e : α → D) (l : List α) (I : Nat → SA → Prop) {s : SA} (h0 : I 0 s)
    (hs : ∀ (k : Nat) (hk : k < l.length) (s : SA), I k s → Sm (fun s1 => Nx (I (k + 1)) (st s1)) (asgG g (e l[k]) s)) :
    ∃ s', forL st g (l.map e) s = .nx s' ∧ I l.length s' := by
  have := forL_inv (st := st) (g := g) (l.map e) (I := I) h0 fun k x s hx hi => by
    have hk : k < l.length := by
      by_cases h : k < l.length
      · exact h
      · rw [List.getElem?_eq_none (by simpa using Nat.not_lt.mp h)] at hx; exact absurd hx (by simp)
    rw [List.getElem?_map, List.getElem?_eq_getElem hk] at hx
    simp only [Option.map_some, Option.some.injEq] at hx
    subst hx
    obtain ⟨s1, e1, h1⟩ := Sm_of (hs k hk s hi)
    obtain ⟨s2, e2, h2⟩ := Nx_of h1
    exact ⟨s1, s2, e1, e2, h2⟩
  simpa using this
/-- a for over typed things that may return d -/
def Rt (d : D) : Fl → Prop
  | .rt d' _ => d' = d
  | _ => False
@[local simp] theorem Rt_rt {d d' : D} {s : SA} : Rt d (.rt d' s) = (d' = d) := rfl
@[local simp] theorem Rt_nx {d : D} {s : SA} : Rt d (.nx s) = False := rfl
@[local simp] theorem Rt_ct {d : D} {s : SA} : Rt d (.ct s) = False := rfl
@[local simp] theorem Rt_bad {d : D} : Rt d .bad = False := rfl
theorem Rt_of {d : D} {r : Fl} (h : Rt d r) : ∃ s, r = .rt d s := by
  cases r <;> simp [Rt] at h
  exact ⟨_, by rw [h]⟩
theorem for_find {α : Type} {st : SA → Fl} {g : MG} (d : D) (e : α → D) (l : List α) (p : α → Bool) (I : Nat → SA → Prop) {s : SA} (h0 : I 0 s)
    (hs : ∀ (k : Nat) (hk : k < l.length) (s : SA), I k s → Sm (fun s1 => if p l[k] then Rt d (st s1) else Nx (I (k + 1)) (st s1)) (asgG g (e l[k]) s)) :
    if l.any p then ∃ s', forL st g (l.map e) s = .rt d s' else ∃ s', forL st g (l.map e) s = .nx s' ∧ I l.length s' := by
  induction l generalizing I s with
  | nil => simp [forL]; exact h0
  | cons a l ih =>
    have h := hs 0 (by simp) s h0
    obtain ⟨s1, e1, h1⟩ := Sm_of h
    simp only [List.getElem_cons_zero] at h1 e1
    rw [List.map_cons, forL, e1]
    by_cases hp : p a = true
    · rw [if_pos hp] at h1
      obtain ⟨s2, e2⟩ := Rt_of h1
      simp only [List.any_cons, hp, Bool.true_or, if_true, e2]; exact ⟨s2, rfl⟩
    · rw [if_neg hp] at h1
      obtain ⟨s2, e2, h2⟩ := Nx_of h1
      have := ih (I := fun k => I (k + 1)) h2 fun k hk s hi => by
        have := hs (k + 1) (by simpa using hk) s hi
        rw [List.getElem_cons_succ] at this; exact this
      simp only [List.any_cons, hp, Bool.false_or, List.length_cons]
      rcases e2 with e2 | e2 <;> simp only [e2] <;> exact this
theorem forV_ok {α : Type} {st : SA → Fl} {g : MG} {i : Nat} (e : α → D) (he : ∀ a, still (e a) = true) (l : List α) (hg : g.slots.contains i = false) (n : Nat) (hn : l.length < n) (I : Nat → SA → Prop) {s : SA} (h0 : I 0 s)
    (hrd : ∀ k s, I k s → rd s i = some (.lst true (l.map e)))
    (hs : ∀ (k : Nat) (hk : k < l.length) (s : SA), I k s → Sm (fun s1 => Nx (I (k + 1)) (st s1)) (asgG g (e l[k]) s)) :
    ∃ s', forV st g i n 0 s = .nx s' ∧ I l.length s' := by
  have hst : stills (l.map e) = true := by
    clear hs hrd hn
    induction l with
    | nil => rfl
    | cons a l ih => simp [he, ih]
  have := forV_inv (st := st) (g := g) (i := i) (ds := l.map e) hg hst n 0 (I := I) h0 (by simp) (by simpa using hn) (fun k s hi => ⟨true, hrd k s hi⟩) fun k x s hx hi => by
    have hk : k < l.length := by
      by_cases h : k < l.length
      · exact h
      · rw [List.getElem?_eq_none (by simpa using Nat.not_lt.mp h)] at hx; exact absurd hx (by simp)
    rw [List.getElem?_map, List.getElem?_eq_getElem hk] at hx
    simp only [Option.map_some, Option.some.injEq] at hx
    subst hx
    obtain ⟨s1, e1, h1⟩ := Sm_of (hs k hk s hi)
    obtain ⟨s2, e2, h2⟩ := Nx_of h1
    exact ⟨s1, s2, e1, e2, h2⟩
  simpa using this
/-- a comprehension that may change the state: each value is told by p -/
def Vs (P : D → SA → Prop) : Er D → Prop
  | .ok d s => P d s
  | _ => False
def VsI (r : Er D) [p : Kf (D → SA → Prop)] : Prop := Vs p.k r
@[local simp ↓] theorem VsI_in {P : D → SA → Prop} {x : Er D} : Vs P x = @VsI x ⟨P⟩ := rfl
@[local simp] theorem Vs_ok {P : D → SA → Prop} {d : D} {s : SA} : @VsI (.ok d s) ⟨P⟩ = P d s := rfl
@[local simp] theorem Vs_rz {P : D → SA → Prop} {c : Nat} {s : SA} : @VsI (.rz c s) ⟨P⟩ = False := rfl
@[local simp] theorem Vs_bad {P : D → SA → Prop} : @VsI .bad ⟨P⟩ = False := rfl
theorem Vs_of {P : D → SA → Prop} {r : Er D} (h : Vs P r) : ∃ d s, r = .ok d s ∧ P d s := by
  cases r <;> simp [Vs] at h
  exact ⟨_, _, rfl, h⟩
theorem comp_all {α β : Type} {f : SA → Er Bool} {g : SA → Er D} {own : Nat} (I : SA → Prop) (e : α → D) (e' : β → D) (p : α → β → Prop) (hf : ∀ s, f s = .ok true s) : ∀ (l : List α) (s : SA), I s →
    (∀ x, x ∈ l → ∀ s, I s → Vs (fun d s2 => (∃ b, p x b ∧ d = e' b) ∧ I (s2.set own none)) (g (s.set own (some (e x))))) →
    ∃ (bs : List β) (s' : SA), compL f g own (l.map e) s = .ok (bs.map e') s' ∧ I s' ∧ bs.length = l.length ∧ ∀ b, b ∈ bs → ∃ x, x ∈ l ∧ p x b
  | [], s, h0, _ => ⟨[], s, rfl, h0, rfl, by simp⟩
  | x :: xs, s, h0, hs => by
    obtain ⟨d, s2, e2, ⟨b, hb, rfl⟩, h2⟩ := Vs_of (hs x (by simp) s h0)
    obtain ⟨bs, s', e3, h3, hl, hp⟩ := comp_all I e e' p hf xs (s2.set own none) h2 fun y hy => hs y (by simp [hy])
    refine ⟨b :: bs, s', ?_, h3, by simp [hl], ?_⟩
    · rw [List.map_cons, compL, hf]
      simp only [Er.bind, if_true, e2, e3, List.map_cons]
    · intro c hc
      rcases List.mem_cons.mp hc with rfl | hc
      · exact ⟨x, by simp, hb⟩
      · obtain ⟨y, hy, h⟩ := hp c hc
        exact ⟨y, by simp [hy], h⟩
@[local simp] theorem atI_mod {α : Type} (xs : List α) (k c : Nat) : atI xs ((k : Int) % (c : Int)) = xs[k % c]? := by
  have : ((k : Int) % (c : Int)) = ((k % c : Nat) : Int) := by simp
  rw [this, atI_natq]
@[local simp] theorem ixN_mod (n k c : Nat) : ixN n ((k : Int) % (c : Int)) = if k % c < n then some (k % c) else none := by
  have : ((k : Int) % (c : Int)) = ((k % c : Nat) : Int) := by simp
  rw [this, ixN_natq]
@[local simp] theorem atI_succ {α : Type} (xs : List α) (k : Nat) : atI xs ((k : Int) + 1) = xs[k + 1]? := by
  have : ((k : Int) + 1) = ((k + 1 : Nat) : Int) := by simp
  rw [this, atI_natq]

@[local simp] theorem filter_tt {α : Type} (l : List α) : l.filter (fun _ => true) = l := List.filter_eq_self.mpr (by simp)

/-! the draws -/
def TakeOk (g : Callee) : Prop := ∀ (xs : List Int) (m : Nat), 0 < m → ∃ (r : Nat) (ys : List Int), g [.lst true (xs.map .int), .int m] = .ok (.int r) [.lst true (ys.map .int)] ∧ r < m
theorem take_ok {G : Env0A} {W : Nat} : TakeOk (runF G W f_l_take) := by
  intro xs m hm
  by_cases h : xs = []
  · subst h
    exact ⟨0, [], by simp -implicitDefEqProofs [runF, f_l_take], hm⟩
  · obtain ⟨ys, r, rfl⟩ : ∃ ys r, xs = ys ++ [r] := ⟨xs.dropLast, xs.getLast h, (List.dropLast_concat_getLast h).symm⟩
    refine ⟨(r % m).toNat, ys, ?_, ?_⟩
    · have h0 : ¬ ((ys.length : Int) + 1 = 0) := by omega
      have h1 : ((r % (m : Int)).toNat : Int) = r % (m : Int) := Int.toNat_of_nonneg (Int.emod_nonneg _ (by omega))
      simp -implicitDefEqProofs [runF, f_l_take, h0, hm, h1]
    · have := Int.emod_lt_of_pos r (b := (m : Int)) (by omega)
      have := Int.emod_nonneg r (b := (m : Int)) (by omega)
      omega
def I_draws (ns : List Int) (n c : Nat) (k : Nat) (s : SA) : Prop := ∃ (cells found : List Int) (mixed : Int) (j5 j6 j7 j8 : Option D),
  s = [some (.scr ns), some (.int n), some (.lst true (cells.map .int)), some (.lst true (found.map .int)), some (.int mixed), j5, j6, j7, j8] ∧ cells.length = c ∧ found.length = k ∧ 0 ≤ mixed ∧ mixed < 2147483647
def DrawsOk (g : Callee) : Prop := ∀ (ns : List Int) (n : Nat), n ≤ 1000 → ∃ xs : List Int, g [.scr ns, .int n] = .ok (.lst true (xs.map .int)) []
theorem draws_loop {G : Env0A} {W : Nat} (ns : List Int) (n c : Nat) (hn : n ≤ 1000) (hc : 0 < c) {s : SA} (h0 : I_draws ns n c 0 s) :
    ∃ s', forL (exs G W [] b_l_draws_1) (.name 5) ((List.range n).map dN) s = .nx s' ∧ I_draws ns n c n s' := by
  have := for_ok (st := exs G W [] b_l_draws_1) (g := .name 5) dN (List.range n) (I_draws ns n c) h0 fun k hk s hi => by
    obtain ⟨cells, found, mixed, j5, j6, j7, j8, rfl, rfl, hk', hm0, hm1⟩ := hi
    have hj : k % cells.length < cells.length := Nat.mod_lt _ hc
    have hs : ∀ x : Int, small64i (x % 2147483647) = true := fun x => by
      have := Int.emod_nonneg x (b := 2147483647) (by decide)
      have := Int.emod_lt_of_pos x (b := 2147483647) (by decide)
      rw [small64i_iff]; omega
    have hs2 : small64i 48271 = true ∧ small64i 69621 = true ∧ small64i 7919 = true ∧ small64i 31 = true := by decide
    have hl : k < 16777216 := by
      simp at hk; omega
    have key : ∀ (v : Int) (cells' : List Int) (m' : Int) j5 j6 j7 j8, cells'.length = cells.length → 0 ≤ m' → m' < 2147483647 → I_draws ns n cells.length (k + 1) [some (.scr ns), some (.int n), some (.lst true (cells'.map .int)), some (.lst true (found.map .int ++ [.int v])), some (.int m'), j5, j6, j7, j8] :=
      fun v cells' m' j5 j6 j7 j8 h1 h2 h3 => ⟨cells', found ++ [v], m', j5, j6, j7, j8, by simp, h1, by simp [hk'], h2, h3⟩
    by_cases hb : (1000000000000000000 : Int) ≤ cells[k % cells.length]
    · simp -implicitDefEqProofs [b_l_draws_1, hj, hc, hs, hs2, hk', hl, hb]
      rw [← List.map_set]
      exact key _ _ _ _ _ _ _ (by simp) (Int.emod_nonneg _ (by decide)) (Int.emod_lt_of_pos _ (by decide))
    · simp -implicitDefEqProofs [b_l_draws_1, hj, hc, hs, hs2, hk', hl, hb]
      exact key _ _ _ _ _ _ _ rfl (Int.emod_nonneg _ (by decide)) (Int.emod_lt_of_pos _ (by decide))
  simpa using this
theorem draws_ok {G : Env0A} {W : Nat} : DrawsOk (runF G W f_l_draws) := by
  intro ns n hn
  have hn2 : n < 1000000 := by omega
  by_cases h : ns = []
  · subst h
    obtain ⟨s', e, cells, found, mixed, j5, j6, j7, j8, rfl, h1, h2, h3⟩ := draws_loop (G := G) (W := W) [] n 1 hn (by decide) (s := [some (.scr []), some (.int n), some (.lst true [.int 7]), some (.lst true []), some (.int 12345), none, none, none, none]) ⟨[7], [], 12345, none, none, none, none, rfl, rfl, rfl, by decide, by decide⟩
    refine ⟨found.reverse, ?_⟩
    simp -implicitDefEqProofs [runF, f_l_draws_eq, g_l_draws, hn2, e]
  · have hl : 0 < ns.length := List.length_pos_iff.mpr h
    obtain ⟨s', e, cells, found, mixed, j5, j6, j7, j8, rfl, h1, h2, h3⟩ := draws_loop (G := G) (W := W) ns n ns.length hn hl (s := [some (.scr ns), some (.int n), some (.lst true (ns.map .int)), some (.lst true []), some (.int 12345), none, none, none, none]) ⟨ns, [], 12345, none, none, none, none, rfl, rfl, rfl, by decide, by decide⟩
    refine ⟨found.reverse, ?_⟩
    have h0 : ¬ ((ns.length : Int) = 0) := by omega
    simp -implicitDefEqProofs [runF, f_l_draws_eq, g_l_draws, hn2, e, h, h0]
/-! Abm2: alphabets and words -/
def Has (G : Env0A) (n : Nat) (p : Callee → Prop) : Prop := ∃ g, G n = some g ∧ p g
/-- valid letters: ascending places below C -/
structure Alph (C : Nat) (L : List (List Nat)) : Prop where
  c1 : 1 ≤ C
  c4 : C ≤ 4
  l1 : 1 ≤ L.length
  l6 : L.length ≤ 6
  fit : ∀ l, l ∈ L → 0 < l.length ∧ l.length ≤ 4 ∧ l.Pairwise (· < ·) ∧ ∀ p, p ∈ l → p < C
def Al (C : Nat) (L : List (List Nat)) : D := .ins false 0 [.int C, .tup (L.map tN)]
@[local simp] theorem Al_ap (C : Nat) (L : List (List Nat)) : Al C L = .ins false 0 [.int C, .tup (L.map tN)] := rfl
/-- two letters are dependent -/
def dl (L : List (List Nat)) (a b : Nat) : Bool := (L.getD a []).any fun p => decide (p ∈ L.getD b [])
/-! the members of a list of numbers, ascending -/
def insN (x : Nat) : List Nat → List Nat
  | [] => [x]
  | y :: ys => if x < y then x :: y :: ys else if x = y then y :: ys else y :: insN x ys
def ssetN : List Nat → List Nat
  | [] => []
  | x :: xs => insN x (ssetN xs)
theorem insU_cast (x : Nat) : ∀ l : List Nat, insU (x : Int) (l.map fun (n : Nat) => (n : Int)) = (insN x l).map fun (n : Nat) => (n : Int)
  | [] => rfl
  | y :: ys => by
    simp only [List.map_cons, insU, insN]
    by_cases h : x < y
    · have : (x : Int) < (y : Int) := by omega
      simp only [h, this, if_true, List.map_cons]
    · have h' : ¬ (x : Int) < (y : Int) := by omega
      by_cases e : x = y
      · subst e; simp [h]
      · have e' : ¬ (x : Int) = (y : Int) := by omega
        simp only [h, h', e, e', if_false, List.map_cons, insU_cast x ys]
theorem sset_cast : ∀ l : List Nat, sset (l.map fun (n : Nat) => (n : Int)) = (ssetN l).map fun (n : Nat) => (n : Int)
  | [] => rfl
  | x :: xs => by simp only [List.map_cons, sset, sset_cast xs, insU_cast, ssetN]
theorem map_cast (l : List Nat) : (l.map fun (n : Nat) => (n : Int)).map D.int = l.map dN := by
  rw [List.map_map]; rfl
@[local simp] theorem sset_dN {m : Bool} (l : List Nat) (h : l.length < 64) : bi1 .sset (.lst m (l.map dN)) = some (.lst true ((ssetN l).map dN)) := by
  simp only [sset_lst, intsOf_dN, Option.bind_some, List.length_map, h, if_true, sset_cast, map_cast]

/-! Abm3: words, events, what is below -/
def WordOk (g : Callee) : Prop := ∀ (xs : List Int) (n M : Nat), 0 < n → M ≤ 1000 → ∃ (w : List Nat) (ys : List Int), g [.lst true (xs.map .int), .int n, .int M] = .ok (.tup (w.map dN)) [.lst true (ys.map .int)] ∧ w.length ≤ M ∧ ∀ a, a ∈ w → a < n
theorem word_ok {G : Env0A} {W : Nat} (h : Has G 6 TakeOk) : WordOk (runF G W f_l_word) := by
  intro xs n M hn hM
  obtain ⟨g, hg, ht⟩ := h
  obtain ⟨r, ys, e1, hr⟩ := ht xs (M + 1) (by omega)
  have hc := comp_all (f := fun s => (evTo G W .none s).noRz) (g := fun s => (ev G W false e_l_word_1 s).noRz) (own := 3)
      (fun s => ∃ ws : List Int, s = [some (.lst true (ws.map .int)), some (.int n), some (.int M), none]) dN dN (fun _ b => b < n)
      (fun s => by simp) (List.range r) [some (.lst true (ys.map .int)), some (.int n), some (.int M), none] ⟨ys, rfl⟩ fun x _ s hs => by
        obtain ⟨ws, rfl⟩ := hs
        obtain ⟨r', zs', e2, hr'⟩ := ht ws n hn
        simp -implicitDefEqProofs [e_l_word_1, hg, e2]
        exact ⟨⟨r', hr', rfl⟩, zs', rfl⟩
  obtain ⟨bs, s', e3, ⟨ws, rfl⟩, hbl, hb⟩ := hc
  refine ⟨bs, ws, ?_, by simp at hbl; omega, fun a ha => by obtain ⟨_, _, h⟩ := hb a ha; exact h⟩
  simp at e1 e3
  have h1 : r < 1000000 := by omega
  have h2 : r ≤ 16777216 := by omega
  simp -implicitDefEqProofs [runF, f_l_word_eq, g_l_word, hg, e1, h1, h2, e3]

/-! chains -/
inductive Ch (d : Nat → Nat → Bool) : Nat → Nat → Prop where
  | refl (k : Nat) : Ch d k k
  | cons {i j k : Nat} : i < j → d i j = true → Ch d j k → Ch d i k
theorem Ch.le {d : Nat → Nat → Bool} {i k : Nat} (h : Ch d i k) : i ≤ k := by
  induction h with
  | refl => exact Nat.le_refl _
  | cons h _ _ ih => omega
theorem Ch.trans {d : Nat → Nat → Bool} {i j k : Nat} (h : Ch d i j) (h' : Ch d j k) : Ch d i k := by
  induction h with
  | refl => exact h'
  | cons a b _ ih => exact .cons a b (ih h')
theorem Ch.snoc {d : Nat → Nat → Bool} {i j k : Nat} (h : Ch d i j) (hj : j < k) (hd : d j k = true) : Ch d i k := h.trans (.cons hj hd (.refl k))
/-- two events are of dependent letters -/
def de (L : List (List Nat)) (w : List Nat) (j k : Nat) : Bool := dl L (w.getD j 0) (w.getD k 0)
open Classical in
noncomputable def rb (d : Nat → Nat → Bool) (ev : List Nat) (k : Nat) : Bool := decide (∃ e, e ∈ ev ∧ Ch d k e)
def IsW (d : D) (w : List Nat) : Prop := d = .tup (w.map dN) ∨ d = .lst false (w.map dN)
def WIn (L : List (List Nat)) (w : List Nat) : Prop := w.length ≤ 1000 ∧ ∀ a, a ∈ w → a < L.length
def eDown (n i : Nat) : D := .int ((n - 1 - i : Nat) : Int)
@[local simp] theorem eDown_ap (n i : Nat) : eDown n i = .int ((n - 1 - i : Nat) : Int) := rfl
/-- what below_all has found when it has come down to place n - k -/
noncomputable def fd (L : List (List Nat)) (w ev : List Nat) (k : Nat) : List Nat := (((List.range w.length).drop (w.length - k)).filter (rb (de L w) ev)).reverse
/-! Abm4: events at a place, views, the newest; the matrix of what is below -/
def evAt (L : List (List Nat)) (w : List Nat) (p : Nat) : List Nat := (List.range w.length).filter fun k => decide (p ∈ L.getD (w.getD k 0) [])
/-! the greatest of some numbers, or -1 -/
/-! Abm5: the law's matrix of what is below -/
def row (n : Nat) (f : Nat → Bool) : D := .lst true ((List.range n).map fun k => .bl (f k))
def mat (n : Nat) (m : Nat → Nat → Bool) : List D := (List.range n).map fun i => row n (m i)
@[local simp] theorem mat_len {n : Nat} {m : Nat → Nat → Bool} : (mat n m).length = n := by simp [mat]
@[local simp] theorem mat_getE {n : Nat} {m : Nat → Nat → Bool} {i : Nat} (h : i < (mat n m).length) : (mat n m)[i] = row n (m i) := by simp [mat]
@[local simp] theorem mat_get {n : Nat} {m : Nat → Nat → Bool} {i : Nat} (h : i < n) : (mat n m)[i]? = some (row n (m i)) := by simp [mat, h]
@[local simp] theorem row_ix {n : Nat} {f : Nat → Bool} {k : Nat} (h : k < n) : getIx (row n f) (k : Int) = some (.bl (f k)) := by simp [row, h]
theorem row_set {n : Nat} {f : Nat → Bool} {k : Nat} {b : Bool} (h : k < n) : fSet (k : Int) (.bl b) (row n f) = some (row n fun x => if x = k then b else f x) := by
  simp only [row, fSet_lst, ixN_natq, List.length_map, List.length_range, h, if_true, Option.map_some, Option.some.injEq]
  congr 1
  apply List.ext_getElem
  · simp
  · intro a ha hb
    simp [-List.map_map] at hb
    simp only [List.getElem_set, List.getElem_map, List.getElem_range]
    by_cases e : k = a
    · subst e; simp
    · have : ¬ a = k := fun h => e h.symm
      simp [e, this]
/-! Abm6: the law of k07 -/
@[local simp] theorem mat_get2 {m : Bool} {n : Nat} {f : Nat → Nat → Bool} {i : Nat} (h : i < n) : getIx (.lst m (mat n f)) (i : Int) = some (row n (f i)) := by
  simp [h]
/-! Abm7: more of loops; sorted numbers -/
/-- a comprehension whose test is drawn: some of the things, in their order -/
theorem compL_some {α : Type} {f : SA → Er Bool} {g : SA → Er D} {own : Nat} (I : SA → Prop) (e : α → D) (h : α → D) : ∀ (l : List α)
    (_ : ∀ x, x ∈ l → ∀ s, I s → ∃ c s1, f (s.set own (some (e x))) = .ok c s1 ∧ (c = false → I (s1.set own none)) ∧ (c = true → ∃ s2, g s1 = .ok (h x) s2 ∧ I (s2.set own none)))
    (s : SA), I s → ∃ (l' : List α) (s' : SA), compL f g own (l.map e) s = .ok (l'.map h) s' ∧ I s' ∧ l'.Sublist l
  | [], _, s, hi => ⟨[], s, rfl, hi, List.Sublist.refl _⟩
  | x :: xs, hx, s, hi => by
    obtain ⟨c, s1, h1, h2, h3⟩ := hx x (by simp) s hi
    rw [List.map_cons, compL, h1]; simp only [Er.bind]
    cases c
    · obtain ⟨l', s', e', hi', hl⟩ := compL_some I e h xs (fun y hy => hx y (by simp [hy])) _ (h2 rfl)
      refine ⟨l', s', ?_, hi', hl.cons x⟩
      simp only [e', Bool.false_eq_true, if_false]
    · obtain ⟨s2, h4, h5⟩ := h3 rfl
      obtain ⟨l', s', e', hi', hl⟩ := compL_some I e h xs (fun y hy => hx y (by simp [hy])) _ h5
      refine ⟨x :: l', s', ?_, hi', hl.cons₂ x⟩
      simp only [h4, e', if_true, List.map_cons]
/-! sorted numbers -/
theorem leD_int (a b : Int) : leD (.int a) (.int b) = decide (a ≤ b) := by
  simp only [leD, toPD]
  rw [PySem.W.dataLt_int, PySem.W.not_lt_int]
def srt (l : List Nat) : List Nat := l.mergeSort fun a b => decide (a ≤ b)
theorem sortD_dN (l : List Nat) : sortD (l.map dN) = (srt l).map dN := by
  simp only [sortD, srt]
  rw [List.map_mergeSort]
  intro a _ b _
  simp only [dN_ap, leD_int]
  simp
@[local simp] theorem sorted_dN {m : Bool} {l : List Nat} (h : l.length ≤ 16777216) : bi1 .sorted (.lst m (l.map dN)) = some (.lst true ((srt l).map dN)) := by
  have h1 : sortable (l.map dN) = true := by
    simp only [sortable, plains_map, List.all_map, Bool.true_and, List.length_map, Bool.and_eq_true, List.all_eq_true, Function.comp, Bool.or_eq_true, decide_eq_true_eq]
    refine ⟨⟨fun a _ b _ => by simp [PySem.W.alike], .inr fun a _ => by simp [noTup]⟩, by simpa using h⟩
  simp only [sorted_lst, stills_map, h1, Bool.true_or, Bool.and_self, if_true, sortD_dN]
def lTt {α : Type} (f : α → D) (l : List α) : D := .lst true (l.map f)
@[local simp] theorem lTt_ap {α : Type} (f : α → D) (l : List α) : lTt f l = .lst true (l.map f) := rfl
@[local simp] theorem frzs_rev (l : List D) : frzs l.reverse = (frzs l).reverse := by
  induction l with
  | nil => rfl
  | cons a l ih => simp [ih]
@[local simp] theorem stills_rev (l : List D) : stills l.reverse = stills l := by
  induction l with
  | nil => rfl
  | cons a l ih => simp [ih, Bool.and_comm]
@[local simp] theorem cut_take (ds : List D) (k : Nat) : cut ds none (some (k : Int)) = ds.take k := by
  simp only [cut, sIx, HT.sIx_nat, HT.sIx_none]
  simp only [Nat.sub_zero, List.drop_zero]
  rcases Nat.le_total k ds.length with h | h
  · rw [Nat.min_eq_left h]
  · rw [Nat.min_eq_right h, List.take_length, List.take_of_length_le h]
@[local simp] theorem cut_drop (ds : List D) (k : Nat) : cut ds (some (k : Int)) none = ds.drop k := by
  simp only [cut, sIx, HT.sIx_nat, HT.sIx_none]
  rcases Nat.le_total k ds.length with h | h
  · rw [Nat.min_eq_left h]
    exact List.take_of_length_le (by simp)
  · rw [Nat.min_eq_right h, List.drop_length, List.drop_of_length_le h]; simp
@[local simp] theorem cut_drop1 (ds : List D) (k : Nat) : cut ds (some ((k : Int) + 1)) none = ds.drop (k + 1) := by
  have := cut_drop ds (k + 1)
  simpa using this
/-! Abm13: words of places, drawn swaps -/
def plw (L : List (List Nat)) (w : List Nat) (p : Nat) : List Nat := w.filter fun a => decide (p ∈ L.getD a [])
/-- words with the same letters at each place -/
def alk (C : Nat) (L : List (List Nat)) (w v : List Nat) : Bool := !(List.range C).any fun p => !decide (plw L w p = plw L v p)
/-- drawn swaps of neighbours that are independent -/
inductive Sw (L : List (List Nat)) (w : List Nat) : List Nat → Prop where
  | refl : Sw L w w
  | step {u v : List Nat} {a b : Nat} : Sw L w (u ++ a :: b :: v) → dl L a b = false → Sw L w (u ++ b :: a :: v)
theorem set_swap : ∀ (u v : List Nat) (a b : Nat), ((u ++ a :: b :: v).set u.length b).set (u.length + 1) a = u ++ b :: a :: v
  | [], v, a, b => rfl
  | x :: u, v, a, b => by simp only [List.cons_append, List.length_cons, List.set_cons_succ, set_swap u v a b]
/-! Abm14: masks, layers: what the code computes -/
/-- the letters below n that are dependent on a, as bits -/
def msk (L : List (List Nat)) (a : Nat) : Nat → Nat
  | 0 => 0
  | n + 1 => if dl L a n then msk L a n ||| 2 ^ n else msk L a n
@[local simp] theorem frzs_lTn (l : List (List Nat)) : frzs (l.map (lTt dN)) = l.map (lT dN) := by
  induction l with
  | nil => rfl
  | cons a l ih => simp [ih]
@[local simp] theorem frzs_lTn2 (l : List (List Nat)) : frzs (l.map (lT dN)) = l.map (lT dN) := by
  induction l with
  | nil => rfl
  | cons a l ih => simp [ih]
/-! Abm15: layers: the plain law -/
theorem dl_of {L : List (List Nat)} {a b p : Nat} (h1 : p ∈ L.getD a []) (h2 : p ∈ L.getD b []) : dl L a b = true := by
  simp only [dl, List.any_eq_true, decide_eq_true_eq]
  exact ⟨p, h1, h2⟩
/-! the same layers for words one swap apart -/
/-! Abm24: words up to order, plainly -/
/-- valid letters -/
def VL (C : Nat) (L : List (List Nat)) (w : List Nat) : Prop := ∀ a, a ∈ w → a < L.length
/-- the same letters at each place -/
def Alk (L : List (List Nat)) (u v : List Nat) : Prop := ∀ p, plw L u p = plw L v p
theorem Alk.refl {L : List (List Nat)} (u : List Nat) : Alk L u u := fun _ => rfl
theorem Alk.symm {L : List (List Nat)} {u v : List Nat} (h : Alk L u v) : Alk L v u := fun p => (h p).symm
theorem Alk.trans {L : List (List Nat)} {u v w : List Nat} (h : Alk L u v) (h' : Alk L v w) : Alk L u w := fun p => (h p).trans (h' p)
theorem plw_app {L : List (List Nat)} {u v : List Nat} {p : Nat} : plw L (u ++ v) p = plw L u p ++ plw L v p := List.filter_append ..
theorem plw_cons {L : List (List Nat)} {a : Nat} {u : List Nat} {p : Nat} : plw L (a :: u) p = if p ∈ L.getD a [] then a :: plw L u p else plw L u p := by
  simp only [plw, List.filter_cons, decide_eq_true_eq]
theorem Alk.app {L : List (List Nat)} {u v u' v' : List Nat} (h : Alk L u v) (h' : Alk L u' v') : Alk L (u ++ u') (v ++ v') := fun p => by rw [plw_app, plw_app, h p, h' p]
theorem Alk.cancel {L : List (List Nat)} {u v w : List Nat} (h : Alk L (u ++ v) (u ++ w)) : Alk L v w := fun p => by
  have := h p
  rw [plw_app, plw_app] at this
  exact List.append_cancel_left this
theorem plw_mem {L : List (List Nat)} {u : List Nat} {p a : Nat} : a ∈ plw L u p ↔ a ∈ u ∧ p ∈ L.getD a [] := by simp [plw]
/-- a letter has a place -/
theorem has_place {C : Nat} {L : List (List Nat)} (hA : Alph C L) {a : Nat} (ha : a < L.length) : ∃ p, p ∈ L.getD a [] := by
  have e : L.getD a [] = L[a] := by simp [ha]
  have h2 := (hA.fit L[a] (List.getElem_mem ha)).1
  exact ⟨L[a][0], by rw [e]; exact List.getElem_mem h2⟩
theorem Alk.mem {C : Nat} {L : List (List Nat)} (hA : Alph C L) {u v : List Nat} (hu : VL C L u) (h : Alk L u v) {a : Nat} (ha : a ∈ u) : a ∈ v := by
  obtain ⟨p, hp⟩ := has_place hA (hu a ha)
  have : a ∈ plw L u p := plw_mem.mpr ⟨ha, hp⟩
  rw [h p] at this
  exact (plw_mem.mp this).1
/-- a letter that could come first: at each place of it the first letter -/
def Fst (L : List (List Nat)) (u : List Nat) (a : Nat) : Prop := a ∈ u ∧ ∀ p, p ∈ L.getD a [] → (plw L u p).head? = some a
theorem Fst.alk {C : Nat} {L : List (List Nat)} (hA : Alph C L) {u v : List Nat} (hu : VL C L u) (h : Alk L u v) {a : Nat} (hf : Fst L u a) : Fst L v a := ⟨h.mem hA hu hf.1, fun p hp => by rw [← h p]; exact hf.2 p hp⟩
/-- position k could come first -/
def canF (L : List (List Nat)) (w : List Nat) (k : Nat) : Bool := decide (((List.range k).filter fun j => de L w j k).length = 0)
theorem canF_iff {L : List (List Nat)} {w : List Nat} {k : Nat} : canF L w k = true ↔ ∀ j, j < k → de L w j k = false := by
  simp only [canF, decide_eq_true_eq, List.length_eq_zero_iff, List.filter_eq_nil_iff, List.mem_range, Bool.not_eq_true]
theorem take_no {L : List (List Nat)} {w : List Nat} {k : Nat} (hk : k < w.length) (h : canF L w k = true) {p : Nat} (hp : p ∈ L.getD w[k] []) : plw L (w.take k) p = [] := by
  rw [plw, List.filter_eq_nil_iff]
  intro a ha hpa
  obtain ⟨j, hj, e⟩ := List.mem_iff_getElem.mp ha
  simp at hj
  have h1 := canF_iff.mp h j (by omega)
  rw [List.getElem_take] at e
  have hjw : j < w.length := by omega
  have e1 : w.getD j 0 = w[j] := by simp [hjw]
  have e2 : w.getD k 0 = w[k] := by simp [hk]
  rw [de, e1, e2, e, dl_of (by simpa using hpa) hp] at h1
  exact absurd h1 (by decide)
theorem split_at {w : List Nat} {k : Nat} (hk : k < w.length) : w = w.take k ++ w[k] :: w.drop (k + 1) := by
  rw [← List.drop_eq_getElem_cons hk, List.take_append_drop]
theorem erase_at {w : List Nat} {k : Nat} : w.eraseIdx k = w.take k ++ w.drop (k + 1) := List.eraseIdx_eq_take_drop_succ w k
/-- taking a letter out that could come first -/
theorem tk_out {L : List (List Nat)} {w : List Nat} {k : Nat} (hk : k < w.length) (h : canF L w k = true) : Alk L (w[k] :: w.eraseIdx k) w := fun p => by
  have e : plw L w p = plw L (w.take k ++ w[k] :: w.drop (k + 1)) p := congrArg (fun l => plw L l p) (split_at hk)
  rw [e, plw_cons, erase_at, plw_app, plw_app, plw_cons]
  by_cases hp : p ∈ L.getD w[k] []
  · rw [if_pos hp, if_pos hp, take_no hk h hp]; rfl
  · rw [if_neg hp, if_neg hp]
theorem fst_of {L : List (List Nat)} {w : List Nat} {k : Nat} (hk : k < w.length) (h : canF L w k = true) : Fst L w w[k] := ⟨List.getElem_mem hk, fun p hp => by
  rw [← tk_out hk h p, plw_cons, if_pos hp]; rfl⟩
theorem fst_at {L : List (List Nat)} {w : List Nat} {a : Nat} (h : Fst L w a) : ∃ k, ∃ hk : k < w.length, canF L w k = true ∧ w[k] = a := by
  -- the first a
  have hf : ∃ k, w.findIdx? (fun x => decide (x = a)) = some k := by
    cases e : w.findIdx? (fun x => decide (x = a)) with
    | some k => exact ⟨k, rfl⟩
    | none =>
      rw [List.findIdx?_eq_none_iff] at e
      have := e a h.1
      simp at this
  obtain ⟨k, hk⟩ := hf
  obtain ⟨hkl, hka, hno⟩ := List.findIdx?_eq_some_iff_getElem.mp hk
  have hka : w[k] = a := by simpa using hka
  refine ⟨k, hkl, canF_iff.mpr fun j hj => ?_, hka⟩
  have hjw : j < w.length := by omega
  have e1 : w.getD j 0 = w[j] := by simp [hjw]
  have e2 : w.getD k 0 = w[k] := by simp [hkl]
  cases hd : de L w j k
  · rfl
  · rw [de, e1, e2, hka, dl, List.any_eq_true] at hd
    obtain ⟨p, hp1, hp2⟩ := hd
    have hp2 : p ∈ L.getD a [] := by simpa using hp2
    have hh := h.2 p hp2
    -- the head of what stands before k
    have hsp : plw L (w.take k ++ w.drop k) p = plw L w p := congrArg (fun l => plw L l p) (List.take_append_drop k w)
    rw [← hsp, plw_app] at hh
    have hmem : w[j] ∈ plw L (w.take k) p := plw_mem.mpr ⟨by rw [List.mem_take_iff_getElem]; exact ⟨j, by omega, rfl⟩, hp1⟩
    cases ht : plw L (w.take k) p with
    | nil => rw [ht] at hmem; exact absurd hmem (by simp)
    | cons x l =>
      rw [ht] at hh
      have hx : x = a := by simpa using hh
      have hxm : x ∈ plw L (w.take k) p := by rw [ht]; simp
      have hxt := (plw_mem.mp hxm).1
      obtain ⟨i, hi, e⟩ := List.mem_iff_getElem.mp hxt
      simp at hi
      rw [List.getElem_take] at e
      have := hno i (by omega)
      rw [e, hx] at this
      simp at this
def firsts (L : List (List Nat)) (w : List Nat) : List Nat := (List.range w.length).filter (canF L w)
theorem mem_firsts {L : List (List Nat)} {w : List Nat} {k : Nat} : k ∈ firsts L w ↔ k < w.length ∧ canF L w k = true := by simp [firsts]
theorem firsts_ne {L : List (List Nat)} {w : List Nat} (h : w ≠ []) : 0 ∈ firsts L w := mem_firsts.mpr ⟨List.length_pos_iff.mpr h, canF_iff.mpr fun j hj => absurd hj (by omega)⟩
/-- the place of the least letter among some -/
def bst (w : List Nat) (ks : List Nat) : Option Nat := ks.foldl (fun o k => match o with
  | none => some k
  | some b => if w.getD k 0 < w.getD b 0 then some k else some b) none
theorem bst_snoc {w ks : List Nat} {k : Nat} : bst w (ks ++ [k]) = match bst w ks with
  | none => some k
  | some b => if w.getD k 0 < w.getD b 0 then some k else some b := by simp only [bst, List.foldl_append, List.foldl_cons, List.foldl_nil]
theorem bst_spec {w : List Nat} {ks : List Nat} : (ks = [] ∧ bst w ks = none) ∨ ∃ b, bst w ks = some b ∧ b ∈ ks ∧ ∀ k, k ∈ ks → w.getD b 0 ≤ w.getD k 0 := by
  have : ∀ (n : Nat) (ks : List Nat), ks.length = n → (ks = [] ∧ bst w ks = none) ∨ ∃ b, bst w ks = some b ∧ b ∈ ks ∧ ∀ k, k ∈ ks → w.getD b 0 ≤ w.getD k 0 := by
    intro n
    induction n with
    | zero => intro ks h; left; exact ⟨List.length_eq_zero_iff.mp h, by rw [List.length_eq_zero_iff.mp h]; rfl⟩
    | succ n ih =>
      intro ks h
      have hne : ks ≠ [] := by intro e; rw [e] at h; simp at h
      have e := List.dropLast_concat_getLast hne
      have hl : ks.dropLast.length = n := by simp [h]
      right
      rw [← e, bst_snoc]
      rcases ih _ hl with ⟨h1, h2⟩ | ⟨b, h1, h2, h3⟩
      · rw [h2, h1]; exact ⟨_, rfl, by simp, by simp⟩
      · rw [h1]
        by_cases hlt : w.getD (ks.getLast hne) 0 < w.getD b 0
        · refine ⟨_, if_pos hlt, by simp, fun k hk => ?_⟩
          rcases List.mem_append.mp hk with hk | hk
          · have := h3 k hk; omega
          · rw [List.mem_singleton] at hk; rw [hk]; omega
        · refine ⟨_, if_neg hlt, by simp [h2], fun k hk => ?_⟩
          rcases List.mem_append.mp hk with hk | hk
          · exact h3 k hk
          · rw [List.mem_singleton] at hk; rw [hk]; omega
  exact this _ ks rfl
/-- the least form, by so many turns -/
def lfN (L : List (List Nat)) : Nat → List Nat → List Nat
  | 0, _ => []
  | n + 1, w => match bst w (firsts L w) with
    | none => []
    | some b => w.getD b 0 :: lfN L n (w.eraseIdx b)
def lf (L : List (List Nat)) (w : List Nat) : List Nat := lfN L w.length w
theorem bst_firsts {L : List (List Nat)} {w : List Nat} (h : w ≠ []) : ∃ b, bst w (firsts L w) = some b ∧ b < w.length ∧ canF L w b = true ∧ ∀ k, k ∈ firsts L w → w.getD b 0 ≤ w.getD k 0 := by
  rcases bst_spec (w := w) (ks := firsts L w) with ⟨h1, _⟩ | ⟨b, h1, h2, h3⟩
  · have := firsts_ne (L := L) h; rw [h1] at this; exact absurd this (by simp)
  · have := mem_firsts.mp h2; exact ⟨b, h1, this.1, this.2, h3⟩
theorem fst_letters {C : Nat} {L : List (List Nat)} (hA : Alph C L) {u v : List Nat} (hu : VL C L u) (h : Alk L u v) {k : Nat} (hk : k ∈ firsts L u) : ∃ j, j ∈ firsts L v ∧ v.getD j 0 = u.getD k 0 := by
  obtain ⟨h1, h2⟩ := mem_firsts.mp hk
  obtain ⟨j, hj, h3, h4⟩ := fst_at ((fst_of h1 h2).alk hA hu h)
  exact ⟨j, mem_firsts.mpr ⟨hj, h3⟩, by simp [hj, h1, h4]⟩
theorem Alk.cons_cancel {L : List (List Nat)} {a : Nat} {u v : List Nat} (h : Alk L (a :: u) (a :: v)) : Alk L u v := Alk.cancel (u := [a]) h
theorem alk_nil {C : Nat} {L : List (List Nat)} (hA : Alph C L) {v : List Nat} (hv : VL C L v) (h : Alk L [] v) : v = [] := by
  cases v with
  | nil => rfl
  | cons a v => exact absurd (h.symm.mem hA hv (a := a) (by simp)) (by simp)
theorem lfN_eq {C : Nat} {L : List (List Nat)} (hA : Alph C L) : ∀ (n : Nat) (u v : List Nat), u.length = n → VL C L u → VL C L v → Alk L u v → lfN L n u = lf L v
  | 0, u, v, hn, hu, hv, h => by
    rw [List.length_eq_zero_iff.mp hn] at h
    rw [alk_nil hA hv h]; rfl
  | n + 1, u, v, hn, hu, hv, h => by
    have hune : u ≠ [] := by intro e; rw [e] at hn; simp at hn
    have hvne : v ≠ [] := by intro e; rw [e] at h; exact hune (alk_nil hA hu h.symm)
    obtain ⟨b, b1, b2, b3, b4⟩ := bst_firsts (L := L) hune
    obtain ⟨c, c1, c2, c3, c4⟩ := bst_firsts (L := L) hvne
    have eb : u.getD b 0 = u[b] := by simp [b2]
    have ec : v.getD c 0 = v[c] := by simp [c2]
    obtain ⟨j, j1, j2⟩ := fst_letters hA hu h (mem_firsts.mpr ⟨b2, b3⟩)
    obtain ⟨i, i1, i2⟩ := fst_letters hA hv h.symm (mem_firsts.mpr ⟨c2, c3⟩)
    have hbc : u[b] = v[c] := by
      have q1 := c4 j j1; have q2 := b4 i i1
      rw [j2] at q1; rw [i2] at q2
      omega
    have hrest : Alk L (u.eraseIdx b) (v.eraseIdx c) := by
      have h1 := (tk_out b2 b3).trans (h.trans (tk_out c2 c3).symm)
      rw [hbc] at h1
      exact h1.cons_cancel
    have hvl : v.length = (v.eraseIdx c).length + 1 := by rw [List.length_eraseIdx, if_pos c2]; omega
    have ih := lfN_eq hA n (u.eraseIdx b) (v.eraseIdx c) (by rw [List.length_eraseIdx, if_pos b2]; omega) (fun a ha => hu a (List.mem_of_mem_eraseIdx ha)) (fun a ha => hv a (List.mem_of_mem_eraseIdx ha)) hrest
    rw [lf, hvl]
    simp only [lfN, b1, c1, eb, ec, hbc, ih]
    rfl
theorem lf_eq {C : Nat} {L : List (List Nat)} (hA : Alph C L) {u v : List Nat} (hu : VL C L u) (hv : VL C L v) (h : Alk L u v) : lf L u = lf L v := lfN_eq hA _ u v rfl hu hv h
theorem lf_len {L : List (List Nat)} : ∀ (n : Nat) (w : List Nat), w.length = n → (lfN L n w).Perm w
  | 0, w, h => by rw [List.length_eq_zero_iff.mp h]; exact List.Perm.refl _
  | n + 1, w, h => by
    obtain ⟨b, h1, h2, h3, _⟩ := bst_firsts (L := L) (w := w) (by intro e; rw [e] at h; simp at h)
    have e : w.getD b 0 = w[b] := by simp [h2]
    simp only [lfN, h1, e]
    have ih := lf_len (L := L) n (w.eraseIdx b) (by rw [List.length_eraseIdx, if_pos h2]; omega)
    refine (List.Perm.cons _ ih).trans ?_
    rw [erase_at]
    have := split_at h2
    conv => rhs; rw [this]
    exact List.perm_middle.symm
theorem lf_perm {L : List (List Nat)} (w : List Nat) : (lf L w).Perm w := lf_len _ w rfl
/-! Abm25: what is left behind a word; greatest common prefixes; crossings: plainly -/
def fp (L : List (List Nat)) (w : List Nat) (a : Nat) : Option Nat := (firsts L w).find? fun k => decide (w.getD k 0 = a)
def res (L : List (List Nat)) : List Nat → List Nat → Option (List Nat)
  | [], v => some v
  | a :: u, v => match fp L v a with
    | none => none
    | some k => res L u (v.eraseIdx k)
/-- no letter could come first in both -/
def NoC (L : List (List Nat)) (r s : List Nat) : Prop := ∀ a, Fst L r a → ¬ Fst L s a
theorem NoC.alk {C : Nat} {L : List (List Nat)} (hA : Alph C L) {r s r' s' : List Nat} (hr : VL C L r') (hs : VL C L s') (h : NoC L r s) (h1 : Alk L r' r) (h2 : Alk L s' s) : NoC L r' s' := fun a ha hb => h a (ha.alk hA hr h1) (hb.alk hA hs h2)
/-! Abm21: words without end -/
theorem depth_tT (l : List Nat) : (toPD (.tup (l.map dN))).depth ≤ 10 := En.depth (f := tN) l
@[local simp] theorem plain_pr (l : List Nat) (b : Bool) : plain (.tup [.tup (l.map dN), .bl b]) = true := by
  have h1 := depth_tT l
  have h2 : (toPD (.bl b)).depth ≤ 10 := En.depth (f := D.bl) b
  have h3 : plain0 (.tup (l.map dN)) = true := En.plain0 (f := tN) l
  have h4 : plain0 (.bl b) = true := rfl
  have hd : (toPD (.tup [.tup (l.map dN), .bl b])).depth ≤ 60 := by
    have : toPD (.tup [.tup (l.map dN), .bl b]) = .tuple [toPD (.tup (l.map dN)), toPD (.bl b)] := rfl
    rw [this]
    generalize toPD (.tup (l.map dN)) = u at h1 ⊢
    generalize toPD (.bl b) = v at h2 ⊢
    simp only [PySem.PyData.depth, PySem.PyData.depthAll]
    omega
  simp only [plain, Bool.and_eq_true, decide_eq_true_eq]
  refine ⟨?_, hd⟩
  simp only [plain0, plains0] at h3 ⊢
  simp only [h3, Bool.and_self]
@[local simp] theorem eqD_pr (l m : List Nat) (a b : Bool) : eqD (.tup [.tup (l.map dN), .bl a]) (.tup [.tup (m.map dN), .bl b]) = (decide (l = m) && decide (a = b)) := by
  have h1 : PySem.PyData.eqv (toPD (.tup (l.map dN))) (toPD (.tup (m.map dN))) = decide (l = m) := En.eq (f := tN) l m
  have h2 : PySem.PyData.eqv (toPD (.bl a)) (toPD (.bl b)) = decide (a = b) := En.eq (f := D.bl) a b
  have e1 : ∀ (l : List Nat) (a : Bool), toPD (.tup [.tup (l.map dN), .bl a]) = .tuple [toPD (.tup (l.map dN)), toPD (.bl a)] := fun _ _ => rfl
  rw [eqD, e1, e1]
  simp only [PySem.PyData.eqv, PySem.PyData.eqvAll] at h1 h2 ⊢
  rw [h1, h2]
  simp
/-! Abm22: same_loop and what the law asks of it -/
def repD (n : Nat) (ds : List D) : List D := (List.replicate n ds).flatten
@[local simp] theorem mul_tup {ds : List D} {j : Int} : bin .mul (.tup ds) (.int j) = if decide (-1000 ≤ j ∧ j ≤ 1000 ∧ ds.length ≤ 1000) then some (.tup (repD j.toNat ds)) else none := rfl
def pr (h t : List Nat) : D := .tup [.tup (h.map dN), .tup (t.map dN)]
@[local simp] theorem pr_ap (h t : List Nat) : pr h t = .tup [.tup (h.map dN), .tup (t.map dN)] := rfl
/-! Abm26: least forms, what is left, greatest common prefixes: what the code computes -/
def blk (L : List (List Nat)) (w : List Nat) : Nat → Nat
  | 0 => 0
  | k + 1 => blk L w k ||| msk L (w.getD k 0) L.length
def nb (o : Option Nat) : Int := match o with
  | none => -1
  | some b => (b : Nat)
def FpOk (g : Callee) : Prop := ∀ (C : Nat) (L : List (List Nat)) (w : List Nat) (dw : D) (a : Nat), Alph C L → IsW dw w → WIn L w → g [Al C L, dw, .int a] = .ok (.int (nb (fp L w a))) []
/-! Abm27: rest, common_prefix, the law's least form -/
theorem WIn.erase {L : List (List Nat)} {w : List Nat} (h : WIn L w) (k : Nat) : WIn L (w.eraseIdx k) := ⟨by have := List.length_eraseIdx_le w k; have := h.1; omega, fun a ha => h.2 a (List.mem_of_mem_eraseIdx ha)⟩
/-! Abm28: the law's least form; equivalent, commute, crossing -/
/-! Abm16: the law of k04 -/
@[local simp] theorem sset_tdN (l : List Nat) (h : l.length < 64) : bi1 .sset (.tup (l.map dN)) = some (.lst true ((ssetN l).map dN)) := by
  simp only [sset_tup, intsOf_dN, Option.bind_some, List.length_map, h, if_true, sset_cast, map_cast]
/-- what the law asks of a list of layers -/
structure Rows (L : List (List Nat)) (w : List Nat) (R : List (List Nat)) : Prop where
  ne : ∀ k (h : k < R.length), R[k] ≠ []
  asc : ∀ k (h : k < R.length), R[k].Pairwise (· < ·)
  lt : ∀ r, r ∈ R → ∀ a, a ∈ r → a < L.length
  ind : ∀ k (h : k < R.length) a b, a ∈ R[k] → b ∈ R[k] → a ≠ b → dl L a b = false
  chain : ∀ k (h : k + 1 < R.length) b, b ∈ R[k + 1] → ∃ c, c ∈ R[k] ∧ dl L b c = true
  plc : ∀ p, plw L R.flatten p = plw L w p
  len : R.flatten.length = w.length
/-! Abm29: crossings -/
@[local simp] theorem atI_two {α : Type} (xs : List α) : atI xs 2 = xs[2]? := atI_natq xs 2
@[local simp] theorem ixN_one (n : Nat) : ixN n 1 = if 1 < n then some 1 else none := ixN_natq n 1
@[local simp] theorem atI_three {α : Type} (xs : List α) : atI xs 3 = xs[3]? := atI_natq xs 3
theorem WIn.app {L : List (List Nat)} {u v : List Nat} (h1 : WIn L u) (h2 : WIn L v) (hz : u.length + v.length ≤ 1000) : WIn L (u ++ v) := ⟨by simpa using hz, fun a ha => by
  rcases List.mem_append.mp ha with h | h
  · exact h1.2 a h
  · exact h2.2 a h⟩
/-! the law, from its end -/
/-! Abm30: the law of k33, joined -/
theorem Alk.len {C : Nat} {L : List (List Nat)} (hA : Alph C L) {u v : List Nat} (hu : VL C L u) (hv : VL C L v) (h : Alk L u v) : u.length = v.length := by
  rw [← (lf_perm (L := L) u).length_eq, ← (lf_perm (L := L) v).length_eq, lf_eq hA hu hv h]
/-! Abm8: cuts -/
def due (d : Nat → Nat → Bool) (k : Nat) (c : List Nat) : List Nat := (List.range k).filter fun j => d j k && !decide (j ∈ c)
def cuts (d : Nat → Nat → Bool) : Nat → List (List Nat)
  | 0 => [[]]
  | k + 1 => cuts d k ++ ((cuts d k).filter fun c => decide ((due d k c).length = 0)).map (· ++ [k])
/-! Abm9: conditions, the least cut -/
def atp (L : List (List Nat)) (w : List Nat) (p k : Nat) : Bool := decide (p ∈ L.getD (w.getD k 0) [])
/-- the letter of the last of some events at a place, or -1 -/
def lstL (L : List (List Nat)) (w c : List Nat) (p : Nat) : Int := match (c.filter (atp L w p)).getLast? with
  | none => -1
  | some k => ((w.getD k 0 : Nat) : Int)
@[local simp] theorem frzs_lT (l : List (List Int)) : frzs (l.map (lT D.int)) = l.map (lT D.int) := by
  induction l with
  | nil => rfl
  | cons a l ih => simp [ih]
@[local simp] theorem stills_lT (l : List (List Int)) : stills (l.map (lT D.int)) = true := by
  induction l with
  | nil => rfl
  | cons a l ih => simp [ih]
def okAt (L : List (List Nat)) (w c : List Nat) (cond : List (List Int)) (p : Nat) : Bool := decide (lstL L w c p ∈ cond.getD p [])
/-- the conditions hold in a cut -/
def holdsB (C : Nat) (L : List (List Nat)) (w c : List Nat) (cond : List (List Int)) : Bool := !(List.range C).any fun p => !okAt L w c cond p
/-! Abm31: prefixes by cuts; the greatest common one -/
def comp (w c : List Nat) : List Nat := (List.range w.length).filter fun k => !decide (k ∈ c)
/-- a beginning, up to order -/
def Pre (L : List (List Nat)) (u w : List Nat) : Prop := ∃ r, (∀ a, a ∈ r → a < L.length) ∧ Alk L (u ++ r) w
theorem Sw.alk {L : List (List Nat)} {w v : List Nat} (h : Sw L w v) : Alk L w v := by
  induction h with
  | refl => exact Alk.refl _
  | @step u t a b _ hd ih =>
    refine ih.trans fun p => ?_
    rw [plw_app, plw_app, plw_cons, plw_cons, plw_cons, plw_cons]
    by_cases h1 : p ∈ L.getD a [] <;> by_cases h2 : p ∈ L.getD b []
    · rw [dl_of h1 h2] at hd; exact absurd hd (by decide)
    · simp only [if_pos h1, if_neg h2]
    · simp only [if_neg h1, if_pos h2]
    · simp only [if_neg h1, if_neg h2]
/-! Abm34: swaps of neighbours: what swaps and swapped reckon -/
def sw2 (w : List Nat) (r : Nat) : List Nat := (w.set r (w.getD (r + 1) 0)).set (r + 1) (w.getD r 0)
def fi (a : Nat) (u : List Nat) : Nat := u.findIdx fun x => decide (x = a)
/-! swapped -/
/-! Abm35: the evaluators of swapped and swaps -/
/-! swaps -/
/-! Abm36: swaps -/
/-! is_least -/
def islF (L : List (List Nat)) : (Nat → Bool) → List Nat → Bool
  | _, [] => true
  | f, a :: w => !f a && islF L (fun b => (f b || decide (b < a)) && !dl L a b) w
def isl (L : List (List Nat)) (w : List Nat) : Bool := islF L (fun _ => false) w
/-! Abm37: is_least -/
/-! a word is least if no letter could come before a greater one -/
/-! Abm38: the law of k06 -/
/-! Abm42: all orders of a word, found swap by swap -/
/-! the order of words -/
/-! how many orders -/
theorem nodup_le {α : Type} [DecidableEq α] : ∀ {l m : List α}, l.Nodup → (∀ x, x ∈ l → x ∈ m) → l.length ≤ m.length
  | [], m, _, _ => by simp
  | a :: l, m, h, hs => by
    have ha := hs a (by simp)
    have hp := List.perm_cons_erase ha
    obtain ⟨h1, h2⟩ := List.nodup_cons.mp h
    have := nodup_le (l := l) (m := m.erase a) h2 fun x hx => by
      have hx' := hs x (by simp [hx])
      rcases List.mem_cons.mp (hp.mem_iff.mp hx') with e | e
      · exact absurd (e ▸ hx) h1
      · exact e
    have := hp.length_eq
    simp at this ⊢; omega
/-! the search -/
def cl1 (L : List (List Nat)) (S : List (List Nat)) (u : List Nat) (n : Nat) : Prop := ∀ r, r < n → r + 1 < u.length → dl L (u.getD r 0) (u.getD (r + 1) 0) = false → sw2 u r ∈ S
structure Bfs (L : List (List Nat)) (w : List Nat) (S : List (List Nat)) (k : Nat) : Prop where
  nd : S.Nodup
  sw : ∀ v, v ∈ S → Sw L w v
  hd : w ∈ S
  cl : ∀ i, i < k → ∀ u, S[i]? = some u → cl1 L S u u.length
theorem cl1_mono {L S S' : List (List Nat)} {u : List Nat} {n : Nat} (h : cl1 L S u n) (hs : ∀ x, x ∈ S → x ∈ S') : cl1 L S' u n := fun r hr h2 hd => hs _ (h r hr h2 hd)
theorem Bfs.snoc {L : List (List Nat)} {w : List Nat} {S : List (List Nat)} {k : Nat} (b : Bfs L w S k) {v : List Nat} (hv : Sw L w v) (hn : ¬ v ∈ S) (hk : k ≤ S.length) : Bfs L w (S ++ [v]) k := by
  refine ⟨?_, fun x hx => ?_, by simp [b.hd], fun i hi u hu => ?_⟩
  · rw [List.nodup_append]
    exact ⟨b.nd, by simp, fun x hx y hy e => hn (by rw [List.mem_singleton] at hy; rw [← hy, ← e]; exact hx)⟩
  · rcases List.mem_append.mp hx with h | h
    · exact b.sw x h
    · rw [List.mem_singleton.mp h]; exact hv
  · rw [List.getElem?_append_left (by omega)] at hu
    exact cl1_mono (b.cl i hi u hu) fun x hx => by simp [hx]
theorem Bfs.all {L : List (List Nat)} {w : List Nat} {S : List (List Nat)} {k : Nat} (b : Bfs L w S k) (hk : S.length ≤ k) : ∀ v, v ∈ S ↔ Sw L w v := fun v => by
  refine ⟨b.sw v, fun h => ?_⟩
  induction h with
  | refl => exact b.hd
  | @step u v x y hp hd ih =>
    obtain ⟨i, hi, e⟩ := List.getElem_of_mem ih
    have h1 := b.cl i (by omega) _ (by rw [List.getElem?_eq_getElem hi, e])
    have hl : u.length + 1 < (u ++ x :: y :: v).length := by simp
    have g1 : (u ++ x :: y :: v).getD u.length 0 = x := by simp [List.getD_eq_getElem?_getD]
    have g2 : (u ++ x :: y :: v).getD (u.length + 1) 0 = y := by
      rw [List.getD_eq_getElem?_getD, List.getElem?_append_right (by omega)]; simp
    have h2 := h1 u.length (by simp) hl (by rw [g1, g2]; exact hd)
    have h3 : sw2 (u ++ x :: y :: v) u.length = u ++ y :: x :: v := by
      rw [sw2, g1, g2]; exact set_swap u v x y
    rw [h3] at h2; exact h2
/-! Abm43: the evaluator of the search for all orders; the least form is the least order -/
theorem for_st {α : Type} {st : SA → Fl} {g : MG} (e : α → D) (l : List α) (I : Nat → SA → Prop) {s : SA} (h0 : I 0 s)
    (hs : ∀ (k : Nat) (hk : k < l.length) (s : SA), I k s → ∃ s1 s2, asgG g (e l[k]) s = some s1 ∧ st s1 = .nx s2 ∧ I (k + 1) s2) :
    ∃ s', forL st g (l.map e) s = .nx s' ∧ I l.length s' :=
  for_ok e l I h0 fun k hk s hi => by
    obtain ⟨s1, s2, e1, e2, h⟩ := hs k hk s hi
    rw [e1]; show Nx _ (st s1); rw [e2]; exact h
@[local simp] theorem kOk_tN {l : List Nat} : kOk 1 (.tup (l.map dN)) = true := by
  simp only [kOk, beq_self_eq_true, Bool.true_and, List.all_map, Bool.or_eq_true]
  left
  rw [List.all_eq_true]; intro x _; rfl
theorem Bfs.next {L : List (List Nat)} {w : List Nat} {S T : List (List Nat)} {k : Nat} (b : Bfs L w (S ++ T) k) (hk : k < S.length) (hc : cl1 L (S ++ T) S[k] S[k].length) : Bfs L w (S ++ T) (k + 1) := by
  refine ⟨b.nd, b.sw, b.hd, fun i hi u hu => ?_⟩
  by_cases e : i = k
  · subst e
    rw [List.getElem?_append_left hk, List.getElem?_eq_getElem hk] at hu
    rw [← Option.some.inj hu]; exact hc
  · exact b.cl i (by omega) u hu
/-! Abm44: the law of k05 -/
/-! Abm45: the law of k02 -/
/-! Abm93: beginnings of a word: the events that are done, the letters that can come next -/
theorem Alk.cnt {C : Nat} {L : List (List Nat)} (hA : Alph C L) {u v : List Nat} (h : Alk L u v) {b : Nat} (hb : b < L.length) : u.count b = v.count b := by
  obtain ⟨p, hp⟩ := has_place hA hb
  have h1 : ∀ u : List Nat, (plw L u p).count b = u.count b := fun u => List.count_filter (by simpa using hp)
  rw [← h1 u, ← h1 v, h p]
/-! Abm10: the least cut -/
def ahead (L : List (List Nat)) (w c : List Nat) (p : Nat) : List Nat := (evAt L w p).filter fun k => !decide (k ∈ c)
/-! Abm11: the law of k34 -/
@[local simp] theorem frzs_lTt (l : List (List Int)) : frzs (l.map (lTt D.int)) = l.map (lT D.int) := by
  induction l with
  | nil => rfl
  | cons a l ih => simp [ih]
@[local simp] theorem noLs_lTt (l : List (List Int)) : noLs (l.map (lTt D.int)) = true := by
  induction l with
  | nil => rfl
  | cons a l ih => simp [ih]
def cD (m : Bool) (cond : List (List Int)) : D := if m then .lst true (cond.map (lTt D.int)) else .lst false (cond.map (lT D.int))
@[local simp] theorem cD_t (cond : List (List Int)) : cD true cond = .lst true (cond.map (lTt D.int)) := rfl
@[local simp] theorem cD_f (cond : List (List Int)) : cD false cond = .lst false (cond.map (lT D.int)) := rfl
/-! Abm94: the evaluators of last_letter, holds (of a tuple of events), next_events -/
/-! Abm95: dicts with rows of numbers as keys; the order of words -/
section
variable {β : Type}
def agt : List (List Nat × β) → List Nat → Option β
  | [], _ => none
  | (k, v) :: r, x => if k = x then some v else agt r x
def apt (al : List (List Nat × β)) (x : List Nat) (v : β) : List (List Nat × β) := if x ∈ al.map (·.1) then al.map fun p => if p.1 = x then (p.1, v) else p else al ++ [(x, v)]
theorem keys_upd (x : List Nat) (v : β) : ∀ al : List (List Nat × β), (al.map fun p => if p.1 = x then (p.1, v) else p).map (·.1) = al.map (·.1)
  | [] => rfl
  | (k, u) :: r => by
    simp only [List.map_cons, keys_upd x v r]
    by_cases hk : k = x <;> simp [hk]
theorem agt_upd (x : List Nat) (v : β) (y : List Nat) : ∀ al : List (List Nat × β), agt (al.map fun p => if p.1 = x then (p.1, v) else p) y = if y = x then (agt al y).map (fun _ => v) else agt al y
  | [] => by simp [agt]
  | (k, u) :: r => by
    have ih := agt_upd x v y r
    simp only [List.map_cons]
    by_cases hk : k = x
    · subst hk
      rw [if_pos rfl, agt, agt]
      by_cases hy : k = y
      · subst hy; simp
      · rw [if_neg hy, if_neg hy, ih]
    · rw [if_neg hk, agt, agt]
      by_cases hy : k = y
      · subst hy; simp [hk]
      · rw [if_neg hy, if_neg hy, ih]
theorem agt_app (a b : List (List Nat × β)) (y : List Nat) : agt (a ++ b) y = (agt a y).or (agt b y) := by
  induction a with
  | nil => simp [agt]
  | cons p r ih =>
    obtain ⟨k, u⟩ := p
    rw [List.cons_append, agt, agt]
    by_cases h : k = y
    · simp [h]
    · simp [h, ih]
theorem agt_none {al : List (List Nat × β)} {y : List Nat} : agt al y = none ↔ y ∉ al.map (·.1) := by
  induction al with
  | nil => simp [agt]
  | cons p r ih =>
    obtain ⟨k, u⟩ := p
    rw [agt]
    by_cases h : k = y
    · simp [h]
    · have h' : ¬ y = k := fun e => h e.symm
      simp only [h, if_false, ih, List.map_cons, List.mem_cons, not_or, h', not_false_eq_true, true_and]
theorem agt_apt (al : List (List Nat × β)) (x : List Nat) (v : β) (y : List Nat) : agt (apt al x v) y = if y = x then some v else agt al y := by
  rw [apt]
  by_cases h : x ∈ al.map (·.1)
  · rw [if_pos h, agt_upd]
    by_cases hy : y = x
    · subst hy
      rw [if_pos rfl, if_pos rfl]
      cases hg : agt al y with
      | none => exact absurd h (agt_none.mp hg)
      | some u => rfl
    · rw [if_neg hy, if_neg hy]
  · rw [if_neg h, agt_app]
    by_cases hy : y = x
    · subst hy
      rw [agt_none.mpr h, if_pos rfl]; simp [agt]
    · rw [if_neg hy, agt, if_neg (fun e => hy e.symm), agt]; simp
theorem keys_apt (al : List (List Nat × β)) (x : List Nat) (v : β) : (apt al x v).map (·.1) = if x ∈ al.map (·.1) then al.map (·.1) else al.map (·.1) ++ [x] := by
  rw [apt]
  by_cases h : x ∈ al.map (·.1)
  · rw [if_pos h, if_pos h, keys_upd]
  · rw [if_neg h, if_neg h]; simp
theorem nodup_apt {al : List (List Nat × β)} (h : (al.map (·.1)).Nodup) (x : List Nat) (v : β) : ((apt al x v).map (·.1)).Nodup := by
  rw [keys_apt]
  split
  · exact h
  · rename_i hx
    refine List.nodup_append.mpr ⟨h, by simp, fun a ha b hb e => ?_⟩
    rw [List.mem_singleton] at hb
    exact hx (by rw [← hb, ← e]; exact ha)
theorem agt_mem {al : List (List Nat × β)} (h : (al.map (·.1)).Nodup) {x : List Nat} {v : β} : agt al x = some v ↔ (x, v) ∈ al := by
  induction al with
  | nil => simp [agt]
  | cons p r ih =>
    obtain ⟨k, u⟩ := p
    rw [List.map_cons, List.nodup_cons] at h
    rw [agt]
    by_cases hk : k = x
    · subst hk
      rw [if_pos rfl]
      constructor
      · intro e; cases e; simp
      · intro e
        rcases List.mem_cons.mp e with e | e
        · cases e; rfl
        · exact absurd (List.mem_map.mpr ⟨_, e, rfl⟩) h.1
    · rw [if_neg hk, ih h.2]
      constructor
      · intro e; exact List.mem_cons_of_mem _ e
      · intro e
        rcases List.mem_cons.mp e with e | e
        · cases e; exact absurd rfl hk
        · exact e
end
/-! the order of words -/
/-! Abm100: counts of earlier events; which letter can come next, by counts -/
variable {C : Nat} {L : List (List Nat)} {w : List Nat}
def fv (F : List (List Nat)) (k b : Nat) : Nat := (F.getD k []).getD b 0
structure ESpec (L : List (List Nat)) (w : List Nat) (F : List (List Nat)) (n : Nat) : Prop where
  len : F.length = n
  row : ∀ k, k < n → (F.getD k []).length = L.length
  lo : ∀ k, k < n → ∀ j, j < k → de L w j k = true → (∀ b, b < L.length → fv F j b ≤ fv F k b) ∧ fv F j (w.getD j 0) + 1 ≤ fv F k (w.getD j 0)
  up : ∀ k, k < n → ∀ M : Nat → Nat, (∀ j, j < k → de L w j k = true → (∀ b, b < L.length → fv F j b ≤ M b) ∧ fv F j (w.getD j 0) + 1 ≤ M (w.getD j 0)) → ∀ b, b < L.length → fv F k b ≤ M b
/-- the positions of a letter -/
def pos (w : List Nat) (a : Nat) : List Nat := (List.range w.length).filter fun k => decide (w.getD k 0 = a)
/-! Abm101: the evaluator of earlier_counts -/
variable {C : Nat} {L : List (List Nat)} {w : List Nat}
def ecJ (w : List Nat) (c f : List Nat) (z j : Nat) : List Nat := ((List.range z).map fun i => max (c.getD i 0) (f.getD i 0)).set (w.getD j 0) (max (max (c.getD (w.getD j 0) 0) (f.getD (w.getD j 0) 0)) (f.getD (w.getD j 0) 0 + 1))
structure EIn (L : List (List Nat)) (w : List Nat) (F : List (List Nat)) (k n : Nat) (c : List Nat) : Prop where
  len : c.length = L.length
  lo : ∀ j, j < n → de L w j k = true → (∀ b, b < L.length → fv F j b ≤ c.getD b 0) ∧ fv F j (w.getD j 0) + 1 ≤ c.getD (w.getD j 0) 0
  up : ∀ M : Nat → Nat, (∀ j, j < n → de L w j k = true → (∀ b, b < L.length → fv F j b ≤ M b) ∧ fv F j (w.getD j 0) + 1 ≤ M (w.getD j 0)) → ∀ b, b < L.length → c.getD b 0 ≤ M b
theorem ecJ_get {c f : List Nat} {z j b : Nat} (hb : b < z) : (ecJ w c f z j).getD b 0 = if w.getD j 0 = b then max (max (c.getD b 0) (f.getD b 0)) (f.getD b 0 + 1) else max (c.getD b 0) (f.getD b 0) := by
  rw [ecJ, List.getD_eq_getElem?_getD, List.getElem?_set]
  by_cases h : w.getD j 0 = b
  · rw [if_pos h, if_pos h, h, if_pos (by simpa using hb)]; rfl
  · rw [if_neg h, if_neg h]; simp [hb]
theorem EIn.step {F : List (List Nat)} {k j : Nat} {c : List Nat} (h : EIn L w F k j c) (hwj : w.getD j 0 < L.length) : EIn L w F k (j + 1) (if de L w j k then ecJ w c (F.getD j []) L.length j else c) := by
  cases hd : de L w j k
  · rw [if_neg (by decide)]
    refine ⟨h.len, fun i hi hdi => ?_, fun M hM b hb => h.up M (fun i hi hdi => hM i (by omega) hdi) b hb⟩
    by_cases e : i = j
    · subst e; rw [hd] at hdi; cases hdi
    · exact h.lo i (by omega) hdi
  · rw [if_pos rfl]
    refine ⟨by simp [ecJ], fun i hi hdi => ?_, fun M hM b hb => ?_⟩
    · by_cases e : i = j
      · subst e
        constructor
        · intro b hb
          rw [ecJ_get hb]
          show fv F i b ≤ _
          have : fv F i b = (F.getD i []).getD b 0 := rfl
          split <;> omega
        · rw [ecJ_get hwj, if_pos rfl]
          have : fv F i (w.getD i 0) = (F.getD i []).getD (w.getD i 0) 0 := rfl
          omega
      · obtain ⟨l1, l2⟩ := h.lo i (by omega) hdi
        constructor
        · intro b hb
          rw [ecJ_get hb]
          have := l1 b hb
          split <;> omega
        · by_cases hwi : w.getD i 0 < L.length
          · rw [ecJ_get hwi]
            split <;> omega
          · exfalso
            rw [List.getD_eq_getElem?_getD (l := c), List.getElem?_eq_none (by rw [h.len]; omega)] at l2
            simp at l2
    · rw [ecJ_get hb]
      have h1 := h.up M (fun i hi hdi => hM i (by omega) hdi) b hb
      obtain ⟨m1, m2⟩ := hM j (by omega) hd
      have h2 := m1 b hb
      have : fv F j b = (F.getD j []).getD b 0 := rfl
      split
      · rename_i e
        rw [e] at m2
        omega
      · omega
theorem fv_app {F : List (List Nat)} {c : List Nat} {k j b : Nat} (hF : F.length = k) : fv (F ++ [c]) j b = if j < k then fv F j b else if j = k then c.getD b 0 else 0 := by
  unfold fv
  by_cases h : j < k
  · rw [if_pos h, List.getD_eq_getElem?_getD (l := F ++ [c]), List.getElem?_append_left (by omega), ← List.getD_eq_getElem?_getD]
  · rw [if_neg h]
    by_cases h2 : j = k
    · rw [if_pos h2, h2, ← hF]; simp
    · rw [if_neg h2]
      have : (F ++ [c])[j]? = none := List.getElem?_eq_none (by simp; omega)
      rw [List.getD_eq_getElem?_getD (l := F ++ [c]), this]; rfl
theorem ESpec.snoc {F : List (List Nat)} {k : Nat} {c : List Nat} (hF : ESpec L w F k) (h : EIn L w F k k c) : ESpec L w (F ++ [c]) (k + 1) := by
  have hl := hF.len
  refine ⟨by simp [hl], fun j hj => ?_, fun i hi j hj hd => ?_, fun i hi M hM b hb => ?_⟩
  · by_cases e : j = k
    · subst e
      rw [← hl]; simp [h.len]
    · have := hF.row j (by omega)
      rw [List.getD_eq_getElem?_getD (l := F ++ [c]), List.getElem?_append_left (by omega), ← List.getD_eq_getElem?_getD]
      exact this
  · simp only [fv_app hl]
    have hjk : j < k := by omega
    simp only [if_pos hjk]
    by_cases e : i = k
    · subst e
      simp only [Nat.lt_irrefl, if_false, if_true]
      exact h.lo j hj hd
    · have hik : i < k := by omega
      simp only [if_pos hik]
      exact hF.lo i hik j hj hd
  · have hM' : ∀ j, j < i → de L w j i = true → (∀ b, b < L.length → fv F j b ≤ M b) ∧ fv F j (w.getD j 0) + 1 ≤ M (w.getD j 0) := fun j hj hd => by
      have := hM j hj hd
      have hjk : j < k := by omega
      simp only [fv_app hl, if_pos hjk] at this
      exact this
    rw [fv_app hl]
    by_cases e : i = k
    · subst e
      rw [if_neg (Nat.lt_irrefl _), if_pos rfl]
      exact h.up M hM' b hb
    · rw [if_pos (show i < k by omega)]
      exact hF.up i (by omega) M hM' b hb
/-! Abm96: avoiding_order: one step -/
@[local simp] theorem noFds_mapT {α : Type} (f : α → D) (h : ∀ x, noFd (f x) = true) : ∀ l : List α, noFds (l.map f) = true
  | [] => rfl
  | a :: l => by rw [List.map_cons, noFds, h a, noFds_mapT f h l]; rfl
section
variable (C : Nat) (L : List (List Nat)) (w : List Nat) (cond : List (List Int))
def hB (c : List Nat) : Bool := holdsB C L w c cond
end
variable {C : Nat} {L : List (List Nat)} {w : List Nat} {cond : List (List Int)}
/-! Abm97: avoiding_order -/
variable {C : Nat} {L : List (List Nat)} {w : List Nat} {cond : List (List Int)}
theorem stills_mapT {α : Type} (f : α → D) (h : ∀ x, still (f x) = true) : ∀ l : List α, stills (l.map f) = true
  | [] => rfl
  | a :: l => by simp [h a, stills_mapT f h l]
/-! Abm102: order_count: one step -/
variable {C : Nat} {L : List (List Nat)} {w : List Nat}
abbrev AN := List (List Nat × Nat)
def canB (L : List (List Nat)) (w : List Nat) (F : List (List Nat)) (d : List Nat) (a : Nat) : Bool := match (pos w a)[d.getD a 0]? with
  | none => false
  | some k => (List.range L.length).all fun b => decide (fv F k b ≤ d.getD b 0)
def bmpD (d : List Nat) (a : Nat) : List Nat := d.set a (d.getD a 0 + 1)
def upA (L : List (List Nat)) (w : List Nat) (F : List (List Nat)) (d : List Nat) (n : Nat) (al2 : AN) (a : Nat) : AN := if canB L w F d a then apt al2 (bmpD d a) ((agt al2 (bmpD d a)).getD 0 + n) else al2
/-! Abm103: words by their counts of letters -/
variable {C : Nat} {L : List (List Nat)} {w : List Nat}
def cv (z : Nat) (u : List Nat) : List Nat := (List.range z).map fun b => u.count b
theorem cv_get {z b : Nat} (u : List Nat) (h : b < z) : (cv z u).getD b 0 = u.count b := by simp [cv, h]
theorem bmpD_cv {z a : Nat} (u : List Nat) (ha : a < z) : bmpD (cv z u) a = cv z (u ++ [a]) := by
  rw [bmpD, cv_get u ha]
  refine List.ext_getElem (by simp [cv]) fun i h1 h2 => ?_
  rw [List.getElem_set]
  by_cases e : a = i
  · subst e; simp [cv]
  · have e2 : ¬ i = a := fun h => e h.symm
    simp [cv, e, List.count_append, List.count_singleton]
structure CtI (z : Nat) (al : AN) (T : List (List Nat)) : Prop where
  nd : (al.map (·.1)).Nodup
  val : ∀ d, (agt al d).getD 0 = (T.filter fun u => decide (cv z u = d)).length
  wit : ∀ d, d ∈ al.map (·.1) → ∃ u, u ∈ T ∧ cv z u = d
def grw (L : List (List Nat)) (w : List Nat) (F S : List (List Nat)) (d : List Nat) (a : Nat) : List (List Nat) := if canB L w F d a then (S.filter fun u => decide (cv L.length u = d)).map (· ++ [a]) else []
theorem blk_flt {z a : Nat} (ha : a < z) (S : List (List Nat)) (d d' : List Nat) : (((S.filter fun u => decide (cv z u = d)).map (· ++ [a])).filter fun u => decide (cv z u = d')).length = if d' = bmpD d a then (S.filter fun u => decide (cv z u = d)).length else 0 := by
  rw [List.filter_map, List.length_map]
  by_cases h : d' = bmpD d a
  · rw [if_pos h, List.filter_eq_self.mpr]
    intro u hu
    rw [List.mem_filter, decide_eq_true_eq] at hu
    simp only [Function.comp, decide_eq_true_eq]
    rw [← bmpD_cv u ha, hu.2, h]
  · rw [if_neg h, List.length_eq_zero_iff, List.filter_eq_nil_iff]
    intro u hu
    rw [List.mem_filter, decide_eq_true_eq] at hu
    simp only [Function.comp, decide_eq_true_eq]
    rw [← bmpD_cv u ha, hu.2]
    exact fun e => h e.symm
theorem CtI.up {F S T : List (List Nat)} {al al2 : AN} (hS : CtI L.length al S) (h : CtI L.length al2 T) {d : List Nat} {n a : Nat} (hd : agt al d = some n) (ha : a < L.length) : CtI L.length (upA L w F d n al2 a) (T ++ grw L w F S d a) := by
  rw [upA, grw]
  cases hc : canB L w F d a
  · rw [if_neg (by decide), if_neg (by decide), List.append_nil]; exact h
  · rw [if_pos rfl, if_pos rfl]
    have hn : n = (S.filter fun u => decide (cv L.length u = d)).length := by rw [← hS.val d, hd]; rfl
    refine ⟨nodup_apt h.nd _ _, fun d' => ?_, fun d' hd' => ?_⟩
    · rw [agt_apt, List.filter_append, List.length_append, blk_flt ha, ← h.val d']
      by_cases e : d' = bmpD d a
      · rw [if_pos e, if_pos e, ← hn, e]; rfl
      · rw [if_neg e, if_neg e]; rfl
    · rw [keys_apt] at hd'
      have old : d' ∈ al2.map (·.1) → ∃ u, u ∈ T ++ (S.filter fun u => decide (cv L.length u = d)).map (· ++ [a]) ∧ cv L.length u = d' := fun hm => by
        obtain ⟨u, h1, h2⟩ := h.wit d' hm
        exact ⟨u, List.mem_append_left _ h1, h2⟩
      split at hd'
      · exact old hd'
      · rcases List.mem_append.mp hd' with hd' | hd'
        · exact old hd'
        · rw [List.mem_singleton] at hd'
          have hdm : d ∈ al.map (·.1) := Classical.byContradiction fun hn => by rw [agt_none.mpr hn] at hd; cases hd
          obtain ⟨u, h1, h2⟩ := hS.wit d hdm
          refine ⟨u ++ [a], List.mem_append_right _ (List.mem_map.mpr ⟨u, List.mem_filter.mpr ⟨h1, by simpa using h2⟩, rfl⟩), ?_⟩
          rw [← bmpD_cv u ha, h2, hd']
def SI (C : Nat) (L : List (List Nat)) (w : List Nat) (i : Nat) (S : List (List Nat)) : Prop := S.Nodup ∧ ∀ u, u ∈ S ↔ u.length = i ∧ VL C L u ∧ Pre L u w
/-! how many keys there can be -/
/-- all words by their counts -/
theorem CtI.sum {z : Nat} {al : AN} {T : List (List Nat)} (h : CtI z al T) : (al.map (·.2)).sum = T.length := by
  have key : ∀ (ks : List (List Nat)) (T : List (List Nat)), ks.Nodup → (∀ u, u ∈ T → cv z u ∈ ks) → (ks.map fun d => (T.filter fun u => decide (cv z u = d)).length).sum = T.length := fun ks => by
    induction ks with
    | nil =>
      intro T _ hT
      cases T with
      | nil => rfl
      | cons u T => exact absurd (hT u (by simp)) (by simp)
    | cons d ks ih =>
      intro T hn hT
      rw [List.nodup_cons] at hn
      have ih2 := ih (T.filter fun u => !decide (cv z u = d)) hn.2 fun u hu => by
        rw [List.mem_filter] at hu
        rcases List.mem_cons.mp (hT u hu.1) with e | e
        · rw [e] at hu; simp at hu
        · exact e
      rw [List.map_cons, List.sum_cons]
      have e1 : (ks.map fun d' => (T.filter fun u => decide (cv z u = d')).length) = ks.map fun d' => ((T.filter fun u => !decide (cv z u = d)).filter fun u => decide (cv z u = d')).length := by
        refine List.map_congr_left fun d' hd' => ?_
        rw [List.filter_filter]
        congr 1
        refine List.filter_congr fun u hu => ?_
        by_cases e : cv z u = d'
        · have : ¬ d' = d := fun e2 => hn.1 (by rw [← e2]; exact hd')
          simp [e, this]
        · simp [e]
      rw [e1, ih2, List.length_eq_countP_add_countP (fun u => decide (cv z u = d)) (l := T), List.countP_eq_length_filter, List.countP_eq_length_filter]
      congr 2
      refine List.filter_congr fun u _ => ?_
      cases decide (cv z u = d) <;> rfl
  have e : al.map (·.2) = (al.map (·.1)).map fun d => (T.filter fun u => decide (cv z u = d)).length := by
    rw [List.map_map]
    refine List.map_congr_left fun p hp => ?_
    have hg := (agt_mem h.nd).mpr (show (p.1, p.2) ∈ al from hp)
    show p.2 = _
    have hv := h.val p.1
    rw [hg] at hv
    exact hv
  rw [e]
  refine key _ T h.nd fun u hu => Classical.byContradiction fun hn => ?_
  have hv := h.val (cv z u)
  rw [agt_none.mpr hn] at hv
  have hm : u ∈ T.filter fun x => decide (cv z x = cv z u) := List.mem_filter.mpr ⟨hu, by simp⟩
  have := List.length_pos_of_mem hm
  simp at hv
  omega
/-! Abm104: order_count -/
variable {C : Nat} {L : List (List Nat)} {w : List Nat}
theorem SI.le {i : Nat} {S : List (List Nat)} (h : SI C L w i S) : ∀ u, u ∈ S → u.length = i ∧ ∀ x, x ∈ u → x < L.length := fun u hu => ⟨((h.2 u).mp hu).1, ((h.2 u).mp hu).2.1⟩
/-! Abm105: orders of f..f s..s -/
variable {C : Nat} {L : List (List Nat)} {w : List Nat}
def two (f s t : Nat) : List Nat := List.replicate t f ++ List.replicate t s
termination_by i j => i + j
/-! Abm106: the law of k09 -/
/-! Abm107: dicts with keys of any type; words counted, and the least value, by keys -/
section
variable {κ β : Type} [DecidableEq κ]
def kgt : List (κ × β) → κ → Option β
  | [], _ => none
  | (k, v) :: r, x => if k = x then some v else kgt r x
def kpt (al : List (κ × β)) (x : κ) (v : β) : List (κ × β) := if x ∈ al.map (·.1) then al.map fun p => if p.1 = x then (p.1, v) else p else al ++ [(x, v)]
def dK (t : Nat) (ek : κ → D) (m : Bool) (e : β → D) (al : List (κ × β)) : D := .dic m t (al.map fun p => ek p.1) (al.map fun p => e p.2)
variable {ek : κ → D} (heq : ∀ a b, eqD (ek a) (ek b) = decide (a = b))
include heq
omit heq in
theorem kkeys_upd (x : κ) (v : β) : ∀ al : List (κ × β), (al.map fun p => if p.1 = x then (p.1, v) else p).map (·.1) = al.map (·.1)
  | [] => rfl
  | (k, u) :: r => by
    simp only [List.map_cons, kkeys_upd x v r]
    by_cases hk : k = x <;> simp [hk]
end
section
variable {κ β : Type} [DecidableEq κ]
theorem kgt_upd (x : κ) (v : β) (y : κ) : ∀ al : List (κ × β), kgt (al.map fun p => if p.1 = x then (p.1, v) else p) y = if y = x then (kgt al y).map (fun _ => v) else kgt al y
  | [] => by simp [kgt]
  | (k, u) :: r => by
    have ih := kgt_upd x v y r
    simp only [List.map_cons]
    by_cases hk : k = x
    · subst hk
      rw [if_pos rfl, kgt, kgt]
      by_cases hy : k = y
      · subst hy; simp
      · rw [if_neg hy, if_neg hy, ih]
    · rw [if_neg hk, kgt, kgt]
      by_cases hy : k = y
      · subst hy; simp [hk]
      · rw [if_neg hy, if_neg hy, ih]
theorem kgt_app (a b : List (κ × β)) (y : κ) : kgt (a ++ b) y = (kgt a y).or (kgt b y) := by
  induction a with
  | nil => simp [kgt]
  | cons p r ih =>
    obtain ⟨k, u⟩ := p
    rw [List.cons_append, kgt, kgt]
    by_cases h : k = y
    · simp [h]
    · simp [h, ih]
theorem kgt_none {al : List (κ × β)} {y : κ} : kgt al y = none ↔ y ∉ al.map (·.1) := by
  induction al with
  | nil => simp [kgt]
  | cons p r ih =>
    obtain ⟨k, u⟩ := p
    rw [kgt]
    by_cases h : k = y
    · simp [h]
    · have h' : ¬ y = k := fun e => h e.symm
      simp only [h, if_false, ih, List.map_cons, List.mem_cons, not_or, h', not_false_eq_true, true_and]
theorem kgt_kpt (al : List (κ × β)) (x : κ) (v : β) (y : κ) : kgt (kpt al x v) y = if y = x then some v else kgt al y := by
  rw [kpt]
  by_cases h : x ∈ al.map (·.1)
  · rw [if_pos h, kgt_upd]
    by_cases hy : y = x
    · subst hy
      rw [if_pos rfl, if_pos rfl]
      cases hg : kgt al y with
      | none => exact absurd h (kgt_none.mp hg)
      | some u => rfl
    · rw [if_neg hy, if_neg hy]
  · rw [if_neg h, kgt_app]
    by_cases hy : y = x
    · subst hy
      rw [kgt_none.mpr h, if_pos rfl]; simp [kgt]
    · rw [if_neg hy, kgt, if_neg (fun e => hy e.symm), kgt]; simp
theorem keys_kpt (al : List (κ × β)) (x : κ) (v : β) : (kpt al x v).map (·.1) = if x ∈ al.map (·.1) then al.map (·.1) else al.map (·.1) ++ [x] := by
  rw [kpt]
  by_cases h : x ∈ al.map (·.1)
  · rw [if_pos h, if_pos h, kkeys_upd]
  · rw [if_neg h, if_neg h]; simp
theorem nodup_kpt {al : List (κ × β)} (h : (al.map (·.1)).Nodup) (x : κ) (v : β) : ((kpt al x v).map (·.1)).Nodup := by
  rw [keys_kpt]
  split
  · exact h
  · rename_i hx
    refine List.nodup_append.mpr ⟨h, by simp, fun a ha b hb e => ?_⟩
    rw [List.mem_singleton] at hb
    exact hx (by rw [← hb, ← e]; exact ha)
theorem kgt_mem {al : List (κ × β)} (h : (al.map (·.1)).Nodup) {x : κ} {v : β} : kgt al x = some v ↔ (x, v) ∈ al := by
  induction al with
  | nil => simp [kgt]
  | cons p r ih =>
    obtain ⟨k, u⟩ := p
    rw [List.map_cons, List.nodup_cons] at h
    rw [kgt]
    by_cases hk : k = x
    · subst hk
      rw [if_pos rfl]
      constructor
      · intro e; cases e; simp
      · intro e
        rcases List.mem_cons.mp e with e | e
        · cases e; rfl
        · exact absurd (List.mem_map.mpr ⟨_, e, rfl⟩) h.1
    · rw [if_neg hk, ih h.2]
      constructor
      · intro e; exact List.mem_cons_of_mem _ e
      · intro e
        rcases List.mem_cons.mp e with e | e
        · cases e; exact absurd rfl hk
        · exact e
end
/-! words counted by keys -/
section
variable {κ : Type} [DecidableEq κ] (kf : List Nat → κ) (nx : κ → Nat → κ) (can : κ → Nat → Bool) (z : Nat)
structure CtK (al : List (κ × Nat)) (T : List (List Nat)) : Prop where
  nd : (al.map (·.1)).Nodup
  val : ∀ d, (kgt al d).getD 0 = (T.filter fun u => decide (kf u = d)).length
  wit : ∀ d, d ∈ al.map (·.1) → ∃ u, u ∈ T ∧ kf u = d
def blkK (S : List (List Nat)) (d : κ) (a : Nat) : List (List Nat) := (S.filter fun u => decide (kf u = d)).map (· ++ [a])
variable {kf nx can z}
theorem blkK_flt {a : Nat} (hnx : ∀ u, kf (u ++ [a]) = nx (kf u) a) (S : List (List Nat)) (d d' : κ) : ((blkK kf S d a).filter fun u => decide (kf u = d')).length = if d' = nx d a then (S.filter fun u => decide (kf u = d)).length else 0 := by
  rw [blkK, List.filter_map, List.length_map]
  by_cases h : d' = nx d a
  · rw [if_pos h, List.filter_eq_self.mpr]
    intro u hu
    rw [List.mem_filter, decide_eq_true_eq] at hu
    simp only [Function.comp, decide_eq_true_eq]
    rw [hnx, hu.2, h]
  · rw [if_neg h, List.length_eq_zero_iff, List.filter_eq_nil_iff]
    intro u hu
    rw [List.mem_filter, decide_eq_true_eq] at hu
    simp only [Function.comp, decide_eq_true_eq]
    rw [hnx, hu.2]
    exact fun e => h e.symm
theorem CtK.up {S T : List (List Nat)} {al al2 : List (κ × Nat)} (hS : CtK kf al S) (h : CtK kf al2 T) {d : κ} {n a : Nat} (hnx : ∀ u, kf (u ++ [a]) = nx (kf u) a) (hd : kgt al d = some n) : CtK kf (kpt al2 (nx d a) ((kgt al2 (nx d a)).getD 0 + n)) (T ++ blkK kf S d a) := by
  have hn : n = (S.filter fun u => decide (kf u = d)).length := by rw [← hS.val d, hd]; rfl
  refine ⟨nodup_kpt h.nd _ _, fun d' => ?_, fun d' hd' => ?_⟩
  · rw [kgt_kpt, List.filter_append, List.length_append, blkK_flt hnx, ← h.val d']
    by_cases e : d' = nx d a
    · rw [if_pos e, if_pos e, ← hn, e]; rfl
    · rw [if_neg e, if_neg e]; rfl
  · rw [keys_kpt] at hd'
    have old : d' ∈ al2.map (·.1) → ∃ u, u ∈ T ++ blkK kf S d a ∧ kf u = d' := fun hm => by
      obtain ⟨u, h1, h2⟩ := h.wit d' hm
      exact ⟨u, List.mem_append_left _ h1, h2⟩
    split at hd'
    · exact old hd'
    · rcases List.mem_append.mp hd' with hd' | hd'
      · exact old hd'
      · rw [List.mem_singleton] at hd'
        have hdm : d ∈ al.map (·.1) := Classical.byContradiction fun hn => by rw [kgt_none.mpr hn] at hd; cases hd
        obtain ⟨u, h1, h2⟩ := hS.wit d hdm
        refine ⟨u ++ [a], List.mem_append_right _ (List.mem_map.mpr ⟨u, List.mem_filter.mpr ⟨h1, by simpa using h2⟩, rfl⟩), ?_⟩
        rw [hnx, h2, hd']
/-- the sum over the keys that p wants -/
theorem CtK.sum {al : List (κ × Nat)} {T : List (List Nat)} (h : CtK kf al T) (p : κ → Bool) : ((al.filter fun x => p x.1).map (·.2)).sum = (T.filter fun u => p (kf u)).length := by
  have key : ∀ (ks : List κ) (T : List (List Nat)), ks.Nodup → (∀ u, u ∈ T → kf u ∈ ks) → (ks.map fun d => (T.filter fun u => decide (kf u = d)).length).sum = T.length := fun ks => by
    induction ks with
    | nil =>
      intro T _ hT
      cases T with
      | nil => rfl
      | cons u T => exact absurd (hT u (by simp)) (by simp)
    | cons d ks ih =>
      intro T hn hT
      rw [List.nodup_cons] at hn
      have ih2 := ih (T.filter fun u => !decide (kf u = d)) hn.2 fun u hu => by
        rw [List.mem_filter] at hu
        rcases List.mem_cons.mp (hT u hu.1) with e | e
        · rw [e] at hu; simp at hu
        · exact e
      rw [List.map_cons, List.sum_cons]
      have e1 : (ks.map fun d' => (T.filter fun u => decide (kf u = d')).length) = ks.map fun d' => ((T.filter fun u => !decide (kf u = d)).filter fun u => decide (kf u = d')).length := by
        refine List.map_congr_left fun d' hd' => ?_
        rw [List.filter_filter]
        congr 1
        refine List.filter_congr fun u hu => ?_
        by_cases e : kf u = d'
        · have : ¬ d' = d := fun e2 => hn.1 (by rw [← e2]; exact hd')
          simp [e, this]
        · simp [e]
      rw [e1, ih2, List.length_eq_countP_add_countP (fun u => decide (kf u = d)) (l := T), List.countP_eq_length_filter, List.countP_eq_length_filter]
      congr 2
      refine List.filter_congr fun u _ => ?_
      cases decide (kf u = d) <;> rfl
  have e : (al.filter fun x => p x.1).map (·.2) = ((al.filter fun x => p x.1).map (·.1)).map fun d => ((T.filter fun u => p (kf u)).filter fun u => decide (kf u = d)).length := by
    rw [List.map_map]
    refine List.map_congr_left fun q hq => ?_
    rw [List.mem_filter] at hq
    have hg := (kgt_mem h.nd).mpr (show (q.1, q.2) ∈ al from hq.1)
    show q.2 = _
    have hv := h.val q.1
    rw [hg] at hv
    show (some q.2).getD 0 = _
    rw [hv]
    simp only [Function.comp]
    rw [List.filter_filter]
    congr 1
    refine List.filter_congr fun u _ => ?_
    by_cases e : kf u = q.1
    · simp [e, hq.2]
    · simp [e]
  rw [e]
  refine key _ _ ?_ fun u hu => ?_
  · exact (h.nd.sublist ((List.filter_sublist).map _))
  · rw [List.mem_filter] at hu
    refine Classical.byContradiction fun hn => ?_
    have hv := h.val (kf u)
    have hno : kf u ∉ al.map (·.1) := fun hm => by
      obtain ⟨q, hq, he⟩ := List.mem_map.mp hm
      exact hn (List.mem_map.mpr ⟨q, List.mem_filter.mpr ⟨hq, by rw [he]; exact hu.2⟩, he⟩)
    rw [kgt_none.mpr hno] at hv
    have hm : u ∈ T.filter fun x => decide (kf x = kf u) := List.mem_filter.mpr ⟨hu.1, by simp⟩
    have := List.length_pos_of_mem hm
    simp at hv
    omega
end
/-! the least value by keys -/
section
variable {κ β : Type} [DecidableEq κ] (kf : List Nat → κ) (val : List Nat → β) (lt : β → β → Bool) (gd : List Nat → Prop)
variable {kf val lt gd}
end
/-! Abm108: the class Orders -/
variable {C : Nat} {L : List (List Nat)} {w : List Nat}
@[local simp] theorem fld16a : fldIx 16 61 = some 0 := rfl
@[local simp] theorem fld16b : fldIx 16 62 = some 1 := rfl
@[local simp] theorem fld16c : fldIx 16 46 = some 2 := rfl
@[local simp] theorem mtd16a : MTD 16 63 = some 219 := rfl
theorem frzs_mapE {α : Type} (f g : α → D) (h : ∀ a, frz (f a) = g a) : ∀ l : List α, frzs (l.map f) = l.map g
  | [] => rfl
  | a :: l => by rw [List.map_cons, frzs, h, frzs_mapE f g h l]; rfl
theorem frzs_dN (l : List Nat) : frzs (l.map dN) = l.map dN := frzs_mapE dN dN (fun _ => rfl) l
/-! Abm109: automata plainly; accepted_orders -/
variable {C : Nat} {L : List (List Nat)} {w : List Nat}
@[local simp] theorem fld1a : fldIx 1 1 = some 0 := rfl
@[local simp] theorem fld1b : fldIx 1 2 = some 1 := rfl
@[local simp] theorem fld1c : fldIx 1 3 = some 2 := rfl
@[local simp] theorem fld1d : fldIx 1 4 = some 3 := rfl
def auD (m : Bool) (z s : Nat) (fs : List Nat) (R : List (List Nat)) : D := .ins m 1 [.int (z : Nat), .int (s : Nat), .tup (fs.map dN), .tup (R.map tN)]
structure Aut (z s : Nat) (fs : List Nat) (R : List (List Nat)) : Prop where
  st : s < R.length
  row : ∀ r, r ∈ R → r.length = z ∧ ∀ x, x ∈ r → x < R.length
  asc : fs.Pairwise (· < ·)
  fin : ∀ f, f ∈ fs → f < R.length
  z1 : 1 ≤ z
def dlt (R : List (List Nat)) (s a : Nat) : Nat := (R.getD s []).getD a 0
def runA (R : List (List Nat)) (s : Nat) (u : List Nat) : Nat := u.foldl (dlt R) s
theorem runA_snoc (R : List (List Nat)) (s : Nat) (u : List Nat) (a : Nat) : runA R s (u ++ [a]) = dlt R (runA R s u) a := by simp [runA]
theorem dlt_lt {z s : Nat} {fs : List Nat} {R : List (List Nat)} (h : Aut z s fs R) {q a : Nat} (hq : q < R.length) (ha : a < z) : dlt R q a < R.length := by
  have e : R.getD q [] = R[q] := by simp [hq]
  obtain ⟨h1, h2⟩ := h.row _ (List.getElem_mem hq)
  have ha' : a < R[q].length := by omega
  have e2 : R[q].getD a 0 = R[q][a] := by simp [ha']
  rw [dlt, e, e2]
  exact h2 _ (List.getElem_mem _)
theorem runA_lt {z s : Nat} {fs : List Nat} {R : List (List Nat)} (h : Aut z s fs R) : ∀ (u : List Nat) (q : Nat), q < R.length → (∀ x, x ∈ u → x < z) → runA R q u < R.length
  | [], q, hq, _ => hq
  | a :: u, q, hq, hu => runA_lt h u _ (dlt_lt h hq (hu a (by simp))) fun x hx => hu x (List.mem_cons_of_mem _ hx)
abbrev KA := List Nat × Nat
def ekA (k : KA) : D := .tup [.tup (k.1.map dN), .int (k.2 : Nat)]
theorem eqD_two (a b a' b' : D) : eqD (.tup [a, b]) (.tup [a', b']) = (eqD a a' && eqD b b') := by
  simp [eqD, toPD, toPDs, PySem.PyData.eqv, PySem.PyData.eqvAll]
theorem nOks_dN : ∀ l : List Nat, nOks (l.map dN) = true
  | [] => rfl
  | a :: l => by rw [List.map_cons, nOks, nOks_dN l]; rfl
theorem dep_dN : ∀ l : List Nat, PySem.NestedKey.depthAll (nks (l.map dN)) = 0
  | [] => rfl
  | a :: l => by rw [List.map_cons, nks, PySem.NestedKey.depthAll, dep_dN l]; rfl
theorem kOkA' (d : List Nat) (s : Int) : kOk 2 (.tup [.tup (d.map dN), .int s]) = true := by
  have h1 : nOks [.tup (d.map dN), .int s] = true := by
    simp only [nOks, nOk, nOks_dN, Bool.and_self, Bool.true_and]
  have h2 : (nk (.tup [.tup (d.map dN), .int s])).depth ≤ 8 := by
    simp only [nk, nks, PySem.NestedKey.depth, PySem.NestedKey.depthAll, dep_dN]
    omega
  simp only [kOk, h1, decide_eq_true h2, beq_self_eq_true, Bool.and_self, Bool.or_true]
@[local simp] theorem kOkA (k : KA) : kOk 2 (ekA k) = true := kOkA' k.1 k.2
theorem getD_eq {α : Type} {l : List α} {i : Nat} {x : α} (h : i < l.length) : l.getD i x = l[i] := by simp [h]
/-! Abm110: accepted_orders: the loops -/
variable {C : Nat} {L : List (List Nat)} {w : List Nat}
section
variable {z s : Nat} {fs : List Nat} {R : List (List Nat)} {F : List (List Nat)}
end
/-! Abm111: accepted_orders -/
variable {C : Nat} {L : List (List Nat)} {w : List Nat}
section
variable {s : Nat} {fs : List Nat} {R : List (List Nat)} {F : List (List Nat)}
end
/-! Abm112: accepted_order: the loops -/
variable {C : Nat} {L : List (List Nat)} {w : List Nat}
section
variable {s : Nat} {fs : List Nat} {R : List (List Nat)} {F : List (List Nat)}
end
/-! Abm113: accepted_order -/
variable {C : Nat} {L : List (List Nat)} {w : List Nat}
section
variable {s : Nat} {fs : List Nat} {R : List (List Nat)} {F : List (List Nat)}
end
/-! Abm114: automata: the class, drawn ones, runs -/
variable {z s : Nat} {fs : List Nat} {R : List (List Nat)}
def AscOk (g : Callee) : Prop := ∀ (fs : List Nat) (n : Nat), fs.length ≤ 1000 → fs.Pairwise (· < ·) → (∀ f, f ∈ fs → f < n) → g [.lst false (fs.map dN), .int n] = .ok (.bl true) []
theorem asc_ok {G : Env0A} {W : Nat} : AscOk (runF G W f_ascends) := by
  intro fs n hl hp hn
  obtain ⟨s', e, y2, rfl⟩ := for_st (st := fun s => exs G W [] b_ascends_1 s) (g := .name 2) dN (List.range fs.length)
    (fun _ s => ∃ y2, s = [some (.lst false (fs.map dN)), some (.int n), y2])
    (s := [some (.lst false (fs.map dN)), some (.int n), none]) ⟨none, rfl⟩ fun k hk s hs => by
      obtain ⟨y2, rfl⟩ := hs
      have hgk : (List.range fs.length)[k]'hk = k := by simp
      have hkl : k < fs.length := by simpa using hk
      rw [hgk]
      refine ⟨[some (.lst false (fs.map dN)), some (.int n), some (.int (k : Nat))], [some (.lst false (fs.map dN)), some (.int n), some (.int (k : Nat))], rfl, ?_, _, rfl⟩
      have h1 := hn fs[k] (List.getElem_mem hkl)
      have h2 : ¬ ((fs[k] : Nat) : Int) < 0 := by omega
      have h3 : ¬ n ≤ fs[k] := by omega
      cases k with
      | zero => simp -implicitDefEqProofs [b_ascends_1, hkl, h2, h3]
      | succ j =>
        have h4 := List.pairwise_iff_getElem.mp hp j (j + 1) (by omega) hkl (by omega)
        have h5 : ¬ fs[j + 1] ≤ fs[j] := by omega
        have hj : j < fs.length := by omega
        have hji : ((j + 1 : Nat) : Int) - 1 = (j : Int) := by omega
        have hjp : (0 : Int) < (j : Int) + 1 := by omega
        simp -implicitDefEqProofs [b_ascends_1, hkl, hj, h2, h3, h5, hji, hjp]
  have hz : fs.length < 1000000 := by omega
  have hz2 : fs.length ≤ 16777216 := by omega
  try simp at e
  simp -implicitDefEqProofs [runF, f_ascends_eq, g_ascends, hz, hz2, e]
def RowOk (g : Callee) : Prop := ∀ (r : List Nat) (z n : Nat), r.length = z → z ≤ 1000 → (∀ x, x ∈ r → x < n) → g [.lst false (r.map dN), .int z, .int n] = .ok (.bl true) []
theorem row_ok {G : Env0A} {W : Nat} : RowOk (runF G W f_right_row) := by
  intro r z n hl hz hn
  obtain ⟨s', e, y3, rfl⟩ := for_st (st := fun s => exs G W [] b_right_row_1 s) (g := .name 3) dN r
    (fun _ s => ∃ y3, s = [some (.lst false (r.map dN)), some (.int z), some (.int n), y3])
    (s := [some (.lst false (r.map dN)), some (.int z), some (.int n), none]) ⟨none, rfl⟩ fun k hk s hs => by
      obtain ⟨y3, rfl⟩ := hs
      refine ⟨[some (.lst false (r.map dN)), some (.int z), some (.int n), some (.int (r[k] : Nat))], [some (.lst false (r.map dN)), some (.int z), some (.int n), some (.int (r[k] : Nat))], rfl, ?_, _, rfl⟩
      have h1 := hn r[k] (List.getElem_mem hk)
      generalize r[k] = x at *
      have h2 : ¬ ((x : Nat) : Int) < 0 := by omega
      have h3 : ¬ n ≤ x := by omega
      simp -implicitDefEqProofs [b_right_row_1, h2, h3]
  have hz2 : z ≤ 16777216 := by omega
  try simp at e
  simp -implicitDefEqProofs [runF, f_right_row_eq, g_right_row, hl, hz2, e]
theorem asc_len2 {l : List Nat} {n : Nat} (h : l.Pairwise (· < ·)) (hn : ∀ x, x ∈ l → x < n) : l.length ≤ n := by
  have := nodup_le (m := List.range n) (h.imp fun h => by omega) fun x hx => List.mem_range.mpr (hn x hx)
  rw [List.length_range] at this
  exact this
def AutInitOk (g : Callee) : Prop := ∀ (z s : Nat) (fs : List Nat) (R : List (List Nat)), Aut z s fs R → z ≤ 1000 → R.length ≤ 1000 → g [.ins true 1 [], .int z, .int s, .lst false (fs.map dN), .lst false (R.map (lT dN))] = .ok .non [auD true z s fs R]
theorem autInit_ok {G : Env0A} {W : Nat} (hA : Has G 56 AscOk) (hRw : Has G 57 RowOk) : AutInitOk (runF G W f_Automaton_init) := by
  intro z s fs R hR hz hR1
  obtain ⟨gA, hgA, hA⟩ := hA
  obtain ⟨gR, hgR, hRw⟩ := hRw
  have hfl := asc_len2 hR.asc hR.fin
  have e1 := hA fs R.length (by omega) hR.asc hR.fin
  obtain ⟨s', e, y6, rfl⟩ := for_st (st := fun s => exs G W [0] b_Automaton_init_1 s) (g := .name 6) (lT dN) R
    (fun _ st => ∃ y6, st = [some (.ins true 1 []), some (.int z), some (.int s), some (.lst false (fs.map dN)), some (.lst false (R.map (lT dN))), some (.bl true), y6])
    (s := [some (.ins true 1 []), some (.int z), some (.int s), some (.lst false (fs.map dN)), some (.lst false (R.map (lT dN))), some (.bl true), none]) ⟨none, rfl⟩ fun k hk st hst => by
      obtain ⟨y6, rfl⟩ := hst
      obtain ⟨h1, h2⟩ := hR.row _ (List.getElem_mem hk)
      have e2 := hRw R[k] z R.length h1 hz h2
      refine ⟨[some (.ins true 1 []), some (.int z), some (.int s), some (.lst false (fs.map dN)), some (.lst false (R.map (lT dN))), some (.bl true), some (.lst false (R[k].map dN))], [some (.ins true 1 []), some (.int z), some (.int s), some (.lst false (fs.map dN)), some (.lst false (R.map (lT dN))), some (.bl true), some (.lst false (R[k].map dN))], rfl, ?_, _, rfl⟩
      have hRz : R.length ≤ 16777216 := by omega
      generalize R[k] = r at *
      try simp at e2
      simp -implicitDefEqProofs [b_Automaton_init_1, hgR, e2, hRz]
  have hcomp := compL_map (f := fun s => (evTo G W .none s).noRz) (g := fun s => (ev G W false e_Automaton_init_2 s).noRz) (own := 6)
    (s := [some (.ins true 1 [.int z, .int s, .tup (fs.map dN)]), some (.int z), some (.int s), some (.lst false (fs.map dN)), some (.lst false (R.map (lT dN))), some (.bl true), none]) rfl (lT dN) (fun _ => true) tN R fun r _ => by
      simp -implicitDefEqProofs [e_Automaton_init_2, tN]
  rw [filter_tt] at hcomp
  have hRz : R.length ≤ 16777216 := by omega
  have hz1 : (1 : Int) ≤ (z : Int) := by have := hR.z1; omega
  have hs0 : (0 : Int) ≤ (s : Int) := by omega
  have hs1 := hR.st
  have hst : stills (R.map tN) = true := stills_mapT tN (fun _ => rfl) R
  have hsr : stills (R.map (lT dN)) = true := stills_mapT (lT dN) (fun r => by simp [lT, still]) R
  have hfz2 : fs.length ≤ 16777216 := by omega
  simp only [auD]
  try simp at e1 e hcomp
  simp -implicitDefEqProofs [runF, f_Automaton_init_eq, g_Automaton_init, hgA, e1, e, hcomp, hRz, hz1, hs0, hs1, hst, hsr, hfz2]
def autT (s : Nat) (fs : List Nat) (R : List (List Nat)) : D := .tup [.int (s : Nat), .lst false (fs.map dN), .lst false (R.map (lT dN))]
def MadeOk (g : Callee) : Prop := ∀ (L : List (List Nat)) (s : Nat) (fs : List Nat) (R : List (List Nat)), Aut L.length s fs R → L.length ≤ 1000 → R.length ≤ 1000 → g [.lst false (L.map tN), autT s fs R] = .ok (auD true L.length s fs R) []
theorem autMade_ok {G : Env0A} {W : Nat} (hI : Has G 58 AutInitOk) : MadeOk (runF G W f_l_made) := by
  intro L s fs R hR hz hR1
  obtain ⟨g, hg, hI⟩ := hI
  have e1 := hI L.length s fs R hR hz hR1
  have hcomp := compL_map (f := fun s => (evTo G W .none s).noRz) (g := fun s => (ev G W false e_l_made_1 s).noRz) (own := 2)
    (s := [some (.lst false (L.map tN)), some (autT s fs R), none]) rfl (lT dN) (fun _ => true) (fun r : List Nat => D.lst true (r.map dN)) R fun r _ => by
      simp -implicitDefEqProofs [e_l_made_1]
  rw [filter_tt] at hcomp
  have hRz : R.length ≤ 16777216 := by omega
  have hLz : L.length ≤ 16777216 := by omega
  have hfz : frzs (R.map fun r : List Nat => D.lst true (r.map dN)) = R.map (lT dN) := frzs_mapE _ _ (fun r => by simp only [frz, lT, frzs_dN]) R
  have hfl := asc_len2 hR.asc hR.fin
  have hfz2 : fs.length ≤ 16777216 := by omega
  have hsr : stills (R.map (lT dN)) = true := stills_mapT (lT dN) (fun r => by simp [lT, still]) R
  simp only [autT, auD] at e1 hcomp ⊢
  generalize (R.map fun r : List Nat => D.lst true (r.map dN)) = RT at *
  try simp at e1 hcomp
  simp -implicitDefEqProofs [runF, f_l_made_eq, g_l_made, hg, e1, hcomp, hRz, hLz, hfz, hfz2, hsr]
def RunOk (g : Callee) : Prop := ∀ (z s : Nat) (fs : List Nat) (R : List (List Nat)) (u : List Nat), Aut z s fs R → (∀ x, x ∈ u → x < z) → g [autT s fs R, .tup (u.map dN)] = .ok (.int (runA R s u : Nat)) []
theorem run_ok {G : Env0A} {W : Nat} : RunOk (runF G W f_l_run) := by
  intro z s fs R u hR hu
  obtain ⟨s', e, y3, rfl⟩ := for_st (st := fun s => exs G W [] b_l_run_1 s) (g := .name 3) dN u
    (fun n st => ∃ y3, st = [some (autT s fs R), some (.tup (u.map dN)), some (.int (runA R s (u.take n) : Nat)), y3])
    (s := [some (autT s fs R), some (.tup (u.map dN)), some (.int (s : Nat)), none]) ⟨none, rfl⟩ fun k hk st hst => by
      obtain ⟨y3, rfl⟩ := hst
      have hq := runA_lt hR (u.take k) s hR.st fun x hx => hu x (List.mem_of_mem_take hx)
      have ha := hu u[k] (List.getElem_mem hk)
      have htk : runA R s (u.take (k + 1)) = dlt R (runA R s (u.take k)) u[k] := by rw [← List.take_append_getElem hk, runA_snoc]
      rw [htk]
      generalize runA R s (u.take k) = q at *
      generalize u[k] = a at *
      have hRq : R.getD q [] = R[q] := getD_eq hq
      have hrl : a < R[q].length := by rw [(hR.row _ (List.getElem_mem hq)).1]; exact ha
      have hRa : dlt R q a = R[q][a] := by rw [dlt, hRq]; exact getD_eq hrl
      rw [hRa]
      refine ⟨[some (autT s fs R), some (.tup (u.map dN)), some (.int (q : Nat)), some (.int (a : Nat))], [some (autT s fs R), some (.tup (u.map dN)), some (.int (R[q][a] : Nat)), some (.int (a : Nat))], rfl, ?_, _, rfl⟩
      generalize hRr : R[q] = r at *
      have hRq2 : R[q]? = some r := by rw [List.getElem?_eq_getElem hq, hRr]
      simp only [autT]
      simp -implicitDefEqProofs [b_l_run_1, hq, hRq2, hRr, hrl]
  rw [List.take_length] at e
  generalize runA R s u = q at *
  simp only [autT] at e ⊢
  try simp at e
  simp -implicitDefEqProofs [runF, f_l_run_eq, g_l_run, e]
def AnyAutOk (g : Callee) : Prop := ∀ (xs : List Int) (z most : Nat), 1 ≤ z → z ≤ 1000 → 1 ≤ most → most ≤ 900 → ∃ (s : Nat) (fs : List Nat) (R : List (List Nat)) (ys : List Int), g [.lst true (xs.map .int), .int z, .int most] = .ok (autT s fs R) [.lst true (ys.map .int)] ∧ Aut z s fs R ∧ R.length ≤ most
theorem anyAut_ok {G : Env0A} {W : Nat} (hT : Has G 6 TakeOk) : AnyAutOk (runF G W f_l_any_automaton) := by
  intro xs z most hz1 hz hm1 hm
  obtain ⟨g, hg, hT⟩ := hT
  obtain ⟨r, ys, e0, hr⟩ := hT xs most (by omega)
  have hn1 : 1 ≤ 1 + r := by omega
  generalize hnn : 1 + r = n at *
  have hni : (1 : Int) + (r : Int) = (n : Int) := by omega
  obtain ⟨R, s1, e1, ⟨zs, rfl⟩, hRl, hRp⟩ := comp_all (f := fun s => (evTo G W .none s).noRz) (g := fun s => (ev G W false e_l_any_automaton_2 s).noRz) (own := 6)
    (fun st => ∃ zs : List Int, st = [some (.lst true (zs.map .int)), some (.int z), some (.int most), some (.int n), none, none, none, none]) dN (fun r : List Nat => D.lst true (r.map dN)) (fun _ r => r.length = z ∧ ∀ x, x ∈ r → x < n) (fun s => by simp) (List.range n)
    [some (.lst true (ys.map .int)), some (.int z), some (.int most), some (.int n), none, none, none, none] ⟨ys, rfl⟩ fun k _ st hst => by
      obtain ⟨zs, rfl⟩ := hst
      obtain ⟨row, s2, e2, ⟨us, rfl⟩, hl, hp⟩ := comp_all (f := fun s => (evTo G W .none s).noRz) (g := fun s => (ev G W false e_l_any_automaton_1 s).noRz) (own := 5)
        (fun st => ∃ us : List Int, st = [some (.lst true (us.map .int)), some (.int z), some (.int most), some (.int n), none, none, some (dN k), none]) dN dN (fun _ x => x < n) (fun s => by simp) (List.range z)
        [some (.lst true (zs.map .int)), some (.int z), some (.int most), some (.int n), none, none, some (dN k), none] ⟨zs, rfl⟩ fun j _ st hst => by
          obtain ⟨us, rfl⟩ := hst
          obtain ⟨x, vs, e3, hx⟩ := hT us n (by omega)
          try simp at e3
          simp -implicitDefEqProofs [e_l_any_automaton_1, hg, e3]
          exact ⟨⟨x, hx, rfl⟩, vs, rfl⟩
      have hzz : z < 1000000 := by omega
      have hzz2 : z ≤ 16777216 := by omega
      try simp at e2
      simp -implicitDefEqProofs [e_l_any_automaton_2, hzz, hzz2, e2]
      exact ⟨⟨row, ⟨by simpa using hl, fun x hx => by obtain ⟨_, _, h⟩ := hp x hx; exact h⟩, rfl⟩, us, rfl⟩
  have hnz : n < 1000000 := by omega
  have hnz2 : n ≤ 16777216 := by omega
  rw [List.length_range] at hRl
  obtain ⟨fs, s3, e3, ⟨us, rfl⟩, hsub⟩ := compL_some (f := fun s => (evTo G W t_l_any_automaton_4 s).noRz) (g := fun s => (ev G W false e_l_any_automaton_3 s).noRz) (own := 6)
    (fun st => ∃ us : List Int, st = [some (.lst true (us.map .int)), some (.int z), some (.int most), some (.int n), some (.lst true (R.map fun r : List Nat => D.lst true (r.map dN))), none, none, none]) dN dN (List.range n)
    (fun x hx st hst => by
      obtain ⟨us, rfl⟩ := hst
      obtain ⟨y, vs, e4, hy⟩ := hT us 2 (by decide)
      try simp at e4
      generalize (R.map fun r : List Nat => D.lst true (r.map dN)) = RT at *
      refine ⟨decide (y = 0), [some (.lst true (vs.map .int)), some (.int z), some (.int most), some (.int n), some (.lst true RT), none, some (dN x), none], ?_, fun _ => ⟨vs, by simp⟩, fun _ => ⟨[some (.lst true (vs.map .int)), some (.int z), some (.int most), some (.int n), some (.lst true RT), none, some (dN x), none], ?_, vs, by simp⟩⟩
      · simp -implicitDefEqProofs [t_l_any_automaton_4, hg, e4]
      · simp -implicitDefEqProofs [e_l_any_automaton_3])
    [some (.lst true (zs.map .int)), some (.int z), some (.int most), some (.int n), some (.lst true (R.map fun r : List Nat => D.lst true (r.map dN))), none, none, none] ⟨zs, rfl⟩
  obtain ⟨s, vs, e4, hs⟩ := hT us n (by omega)
  refine ⟨s, fs, R, vs, ?_, ⟨by omega, fun r hr => ?_, (List.pairwise_lt_range).sublist hsub, fun f hf => ?_, hz1⟩, by omega⟩
  · have hfz : frzs (R.map fun r : List Nat => D.lst true (r.map dN)) = R.map (lT dN) := frzs_mapE _ _ (fun r => by simp only [frz, lT, frzs_dN]) R
    have hsr : stills (R.map fun r : List Nat => D.lst true (r.map dN)) = false ∨ True := .inr trivial
    simp only [autT]
    generalize (R.map fun r : List Nat => D.lst true (r.map dN)) = RT at *
    try simp at e0 e1 e3 e4
    simp -implicitDefEqProofs [runF, f_l_any_automaton_eq, g_l_any_automaton, hg, e0, hni, e1, e3, e4, hnz, hnz2, hfz]
  · obtain ⟨_, _, h1, h2⟩ := hRp r hr
    exact ⟨h1, by rw [hRl]; exact h2⟩
  · have := List.mem_range.mp (hsub.subset hf)
    omega
/-! Abm115: the law of k51 -/
/-! Abm130: what steps lead to, numbered as it is reached (plainly) -/
section
variable {α : Type} [DecidableEq α]
def ixOf (l : List α) (x : α) : Nat := l.idxOf x
def adds (f : Nat → α) : Nat → List α → List α
  | 0, l => l
  | z + 1, l => if f z ∈ adds f z l then adds f z l else adds f z l ++ [f z]
def xpl (st : α → Nat → α) (z : Nat) (s0 : α) : Nat → List α
  | 0 => [s0]
  | k + 1 => match (xpl st z s0 k)[k]? with
    | some x => adds (st x) z (xpl st z s0 k)
    | none => xpl st z s0 k
theorem adds_pre (f : Nat → α) : ∀ (z : Nat) (l : List α), l <+: adds f z l
  | 0, l => List.prefix_refl l
  | z + 1, l => by
    simp only [adds]
    split
    · exact adds_pre f z l
    · exact (adds_pre f z l).trans (List.prefix_append _ _)
theorem adds_mem (f : Nat → α) (x : α) : ∀ (z : Nat) (l : List α), x ∈ adds f z l ↔ x ∈ l ∨ ∃ a, a < z ∧ x = f a
  | 0, l => by simp [adds]
  | z + 1, l => by
    have ih := adds_mem f x z l
    simp only [adds]
    split
    · rename_i h
      rw [ih]
      constructor
      · rintro (h1 | ⟨a, h1, h2⟩)
        · exact .inl h1
        · exact .inr ⟨a, by omega, h2⟩
      · rintro (h1 | ⟨a, h1, h2⟩)
        · exact .inl h1
        · by_cases ha : a = z
          · subst ha; rw [← ih, h2]; exact h
          · exact .inr ⟨a, by omega, h2⟩
    · rw [List.mem_append, ih, List.mem_singleton]
      constructor
      · rintro ((h1 | ⟨a, h1, h2⟩) | h1)
        · exact .inl h1
        · exact .inr ⟨a, by omega, h2⟩
        · exact .inr ⟨z, by omega, h1⟩
      · rintro (h1 | ⟨a, h1, h2⟩)
        · exact .inl (.inl h1)
        · by_cases ha : a = z
          · subst ha; exact .inr h2
          · exact .inl (.inr ⟨a, by omega, h2⟩)
theorem adds_nodup (f : Nat → α) : ∀ (z : Nat) {l : List α}, l.Nodup → (adds f z l).Nodup
  | 0, l, h => h
  | z + 1, l, h => by
    simp only [adds]
    split
    · exact adds_nodup f z h
    · rename_i hn
      rw [List.nodup_append]
      exact ⟨adds_nodup f z h, by simp, fun a ha b hb => by rw [List.mem_singleton.mp hb]; rintro rfl; exact hn ha⟩
variable {st : α → Nat → α} {z : Nat} {s0 : α}
theorem xpl_succ_pre (k : Nat) : xpl st z s0 k <+: xpl st z s0 (k + 1) := by
  simp only [xpl]
  split
  · exact adds_pre _ _ _
  · exact List.prefix_refl _
theorem xpl_pre {k m : Nat} (h : k ≤ m) : xpl st z s0 k <+: xpl st z s0 m := by
  induction m with
  | zero => have : k = 0 := by omega
            subst this; exact List.prefix_refl _
  | succ m ih =>
    by_cases hk : k = m + 1
    · subst hk; exact List.prefix_refl _
    · exact (ih (by omega)).trans (xpl_succ_pre m)
theorem xpl_nodup : ∀ k, (xpl st z s0 k).Nodup
  | 0 => by simp [xpl]
  | k + 1 => by
    simp only [xpl]
    split
    · exact adds_nodup _ _ (xpl_nodup k)
    · exact xpl_nodup k
theorem xpl_sub {U : α → Prop} (h0 : U s0) (hs : ∀ x a, U x → a < z → U (st x a)) : ∀ k x, x ∈ xpl st z s0 k → U x
  | 0, x, h => by rw [List.mem_singleton.mp h]; exact h0
  | k + 1, x, h => by
    simp only [xpl] at h
    split at h
    · rename_i y hy
      rcases (adds_mem _ _ _ _).mp h with h | ⟨a, ha, rfl⟩
      · exact xpl_sub h0 hs k x h
      · exact hs y a (xpl_sub h0 hs k y (List.mem_of_getElem? hy)) ha
    · exact xpl_sub h0 hs k x h
theorem xpl_pos (k : Nat) : 1 ≤ (xpl st z s0 k).length := by
  have := (xpl_pre (st := st) (z := z) (s0 := s0) (Nat.zero_le k)).length_le
  simpa [xpl] using this
theorem xpl_head (k : Nat) : (xpl st z s0 k)[0]? = some s0 := by
  obtain ⟨t, h⟩ := xpl_pre (st := st) (z := z) (s0 := s0) (Nat.zero_le k)
  rw [← h]; simp [xpl]
/-- it comes to an end -/
theorem xpl_stop {N : Nat} (hN : ∀ k, (xpl st z s0 k).length ≤ N) : ∃ m, (xpl st z s0 m).length = m ∧ (∀ k, k < m → k < (xpl st z s0 k).length) ∧ ∀ k, m ≤ k → xpl st z s0 k = xpl st z s0 m := by
  have key : ∀ n, (∃ m, m ≤ n ∧ (xpl st z s0 m).length = m ∧ ∀ k, k < m → k < (xpl st z s0 k).length) ∨ ∀ k, k ≤ n → k < (xpl st z s0 k).length := by
    intro n
    induction n with
    | zero => exact .inr fun k hk => by have := xpl_pos (st := st) (z := z) (s0 := s0) k; omega
    | succ n ih =>
      rcases ih with ⟨m, h1, h2⟩ | h
      · exact .inl ⟨m, by omega, h2⟩
      · by_cases hl : n + 1 < (xpl st z s0 (n + 1)).length
        · exact .inr fun k hk => by
            by_cases e : k = n + 1
            · subst e; exact hl
            · exact h k (by omega)
        · refine .inl ⟨n + 1, Nat.le_refl _, ?_, fun k hk => h k (by omega)⟩
          have h1 := h n (Nat.le_refl _)
          have h2 := (xpl_succ_pre (st := st) (z := z) (s0 := s0) n).length_le
          omega
  rcases key N with ⟨m, _, h1, h2⟩ | h
  · refine ⟨m, h1, h2, fun k hk => ?_⟩
    induction k with
    | zero => have : m = 0 := by omega
              rw [this]
    | succ k ih =>
      by_cases e : m = k + 1
      · rw [e]
      · have ih := ih (by omega)
        simp only [xpl]
        rw [List.getElem?_eq_none (by rw [ih]; omega)]
        exact ih
  · have := h N (Nat.le_refl _)
    have := hN N
    omega
theorem idx_pre {l l' : List α} {x : α} (h : l <+: l') (hx : x ∈ l) : ixOf l' x = ixOf l x := by
  unfold ixOf
  obtain ⟨t, rfl⟩ := h
  rw [List.idxOf_append, if_pos hx]
/-- the end: closed under steps -/
structure ExDone (st : α → Nat → α) (z : Nat) (s0 : α) (Fd : List α) : Prop where
  nd : Fd.Nodup
  hd : Fd[0]? = some s0
  clo : ∀ x, x ∈ Fd → ∀ a, a < z → st x a ∈ Fd
  at_ : ∀ k, xpl st z s0 Fd.length = Fd ∧ (Fd.length ≤ k → xpl st z s0 k = Fd)
  lt : ∀ k, k < Fd.length → k < (xpl st z s0 k).length
theorem xpl_done0 {N : Nat} (hN : ∀ k, (xpl st z s0 k).length ≤ N) : ∃ Fd, ExDone st z s0 Fd ∧ Fd.length ≤ N := by
  obtain ⟨m, h1, h2, h3⟩ := xpl_stop hN
  refine ⟨xpl st z s0 m, ⟨xpl_nodup m, xpl_head m, fun x hx a ha => ?_, fun k => ⟨by rw [h1], fun hk => h3 k (by rw [h1] at hk; exact hk)⟩, fun k hk => h2 k (by rw [h1] at hk; exact hk)⟩, hN m⟩
  obtain ⟨k, hk, rfl⟩ := List.getElem_of_mem hx
  have hkm : k < m := by rw [h1] at hk; exact hk
  have hk2 := h2 k hkm
  have e : (xpl st z s0 k)[k]? = some (xpl st z s0 m)[k] := by
    obtain ⟨t, ht⟩ := xpl_pre (st := st) (z := z) (s0 := s0) (Nat.le_of_lt hkm)
    rw [List.getElem?_eq_getElem hk2]
    congr 1
    have : (xpl st z s0 k ++ t)[k]'(by rw [ht]; exact hk) = (xpl st z s0 k)[k] := List.getElem_append_left hk2
    rw [← this]
    congr 1
  have : st (xpl st z s0 m)[k] a ∈ xpl st z s0 (k + 1) := by
    show _ ∈ (match (xpl st z s0 k)[k]? with | some x => adds (st x) z (xpl st z s0 k) | none => xpl st z s0 k)
    rw [e]
    exact (adds_mem _ _ _ _).mpr (.inr ⟨a, ha, rfl⟩)
  exact (xpl_pre (by omega)).subset this
/-- the row of a state -/
def rowE (st : α → Nat → α) (z : Nat) (Fd : List α) (x : α) : List Nat := (List.range z).map fun a => ixOf Fd (st x a)
def rowsE (st : α → Nat → α) (z : Nat) (Fd : List α) : List (List Nat) := Fd.map (rowE st z Fd)
def finsE (fin : α → Bool) (Fd : List α) : List Nat := (List.range Fd.length).filter fun k => (Fd[k]?.map fin).getD false
theorem ex_aut {Fd : List α} {fin : α → Bool} (h : ExDone st z s0 Fd) (hz : 1 ≤ z) : Aut z 0 (finsE fin Fd) (rowsE st z Fd) := by
  have hl : (rowsE st z Fd).length = Fd.length := by simp [rowsE]
  have h0 : 0 < Fd.length := by
    obtain ⟨h, _⟩ := List.getElem?_eq_some_iff.mp h.hd; exact h
  refine ⟨by rw [hl]; exact h0, fun r hr => ?_, (List.pairwise_lt_range).sublist List.filter_sublist, fun f hf => ?_, hz⟩
  · obtain ⟨x, hx, rfl⟩ := List.mem_map.mp hr
    refine ⟨by simp [rowE], fun y hy => ?_⟩
    obtain ⟨a, ha, rfl⟩ := List.mem_map.mp hy
    rw [hl]
    exact List.idxOf_lt_length_iff.mpr (h.clo x hx a (List.mem_range.mp ha))
  · rw [hl]
    exact List.mem_range.mp (List.mem_filter.mp hf).1
end
/-! Abm131: explored -/
@[local simp] theorem noClo_int (i : Int) : noClo (.int i) = true := rfl
@[local simp] theorem noClo_bl (b : Bool) : noClo (.bl b) = true := rfl
@[local simp] theorem noClos_nil : noClos [] = true := rfl
section
variable {α : Type} [DecidableEq α]
structure EnK (t : Nat) (e : α → D) : Prop where
  eqk : ∀ a b, eqD (e a) (e b) = decide (a = b)
  kok : ∀ a, kOk t (e a) = true
  still : ∀ a, still (e a) = true
  noc : ∀ a, noClo (e a) = true
  frz : ∀ a, frz (e a) = e a
def numD (t : Nat) (e : α → D) (F : List α) : D := .dic true t (F.map e) ((List.range F.length).map dN)
variable {t : Nat} {e : α → D} (he : EnK t e)
include he
theorem memD_e (x : α) (F : List α) : memD (e x) (F.map e) = decide (x ∈ F) := by
  induction F with
  | nil => simp [memD]
  | cons y F ih =>
    simp only [memD, List.map_cons, List.any_cons, he.eqk] at ih ⊢
    rw [ih]
    by_cases h : y = x
    · simp [h]
    · have h2 : ¬ x = y := fun z => h z.symm
      simp [h, h2]
theorem dval_num (x : α) : ∀ (F : List α) (o : Nat), x ∈ F → dval (F.map e) ((List.range' o F.length).map dN) (e x) = some (dN (o + F.idxOf x))
  | [], o, h => by simp at h
  | y :: F, o, h => by
    simp only [List.map_cons, List.length_cons, List.range'_succ, dval, he.eqk]
    by_cases hy : y = x
    · simp [hy]
    · have hx : x ∈ F := (List.mem_cons.mp h).resolve_left fun z => hy z.symm
      rw [if_neg (by simpa using hy), dval_num x F (o + 1) hx, List.idxOf_cons, show (y == x) = false by simpa using hy, cond_false]
      simp only [Option.some.injEq, dN_ap, D.int.injEq]
      omega
theorem dval_num0 {x : α} {F : List α} (h : x ∈ F) : dval (F.map e) ((List.range F.length).map dN) (e x) = some (dN (ixOf F x)) := by
  have := dval_num he x F 0 h
  rw [← List.range_eq_range', Nat.zero_add] at this
  exact this
theorem dput_num {x : α} {F : List α} (h : ¬ x ∈ F) : dput t (F.map e) ((List.range F.length).map dN) (e x) (.int (F.length : Nat)) = numD t e (F ++ [x]) := by
  rw [dput, memD_e he, if_neg (by simpa using h), numD]
  simp [List.range_succ]
omit he
theorem adds_pre2 (f : Nat → α) (l : List α) {j z : Nat} (h : j ≤ z) : adds f j l <+: adds f z l := by
  induction z with
  | zero => have : j = 0 := by omega
            subst this; exact List.prefix_refl _
  | succ z ih =>
    by_cases hj : j = z + 1
    · subst hj; exact List.prefix_refl _
    · refine (ih (by omega)).trans ?_
      simp only [adds]
      split
      · exact List.prefix_refl _
      · exact List.prefix_append _ _
/-- explored, for both kinds of keys -/
def fEx (t : Nat) : MF := ⟨5, 14, [4], (.cons (.asg 5 (.lst (.cons (.slot 1) .nil))) (.cons (.asg 6 (.dlit t (.slot 1) (.int 0))) (.cons (.asg 7 (.lst .nil)) (.cons (.asg 8 (.int 0)) (.cons (.whil t_explored_0_2 b_explored_0_3) (.cons (.asg 12 (.comp 13 e_explored_0_4 (.r1 (.bi1 .len (.slot 5))) t_explored_0_5)) (.cons (.ret (.make 1 58 (.cons (.rd (.slot 0)) (.cons (.rd (.int 0)) (.cons (.rd (.slot 12)) (.cons (.bor 7) .nil)))))) .nil)))))))⟩
theorem ex_inner (he : EnK t e) {G : Env0A} {W n1 n2 z k : Nat} {cap1 cap2 : List D} {g1 : Callee} {st : α → Nat → α} {F Fd : List α} {x s0 : α} {y10 y11 y12 y13 : Option D} {rs : D} (hg : G n1 = some g1) (hx : F[k]? = some x) (hstp : ∀ a, a < z → g1 (e x :: .int a :: cap1) = .ok (e (st x a)) []) (hFd : adds (st x) z F <+: Fd) (hl : Fd.length ≤ 1000) (hz : z ≤ 1000) :
    ∃ y10' y11', forL (fun s => exs G W [4] b_explored_0_1 s) (.name 10) ((List.range z).map dN) [some (.int z), some (e s0), some (.clo n1 cap1), some (.clo n2 cap2), some .tbs, some (.lst true (F.map e)), some (numD t e F), some rs, some (.int k), some (.lst true []), y10, y11, y12, y13] =
      .nx [some (.int z), some (e s0), some (.clo n1 cap1), some (.clo n2 cap2), some .tbs, some (.lst true ((adds (st x) z F).map e)), some (numD t e (adds (st x) z F)), some rs, some (.int k), some (.lst true ((rowE st z Fd x).map dN)), y10', y11', y12, y13] := by
  obtain ⟨s', h1, y10', y11', rfl⟩ := for_st (st := fun s => exs G W [4] b_explored_0_1 s) (g := .name 10) dN (List.range z)
    (fun j s => ∃ y10 y11, s = [some (.int z), some (e s0), some (.clo n1 cap1), some (.clo n2 cap2), some .tbs, some (.lst true ((adds (st x) j F).map e)), some (numD t e (adds (st x) j F)), some rs, some (.int k), some (.lst true (((List.range j).map fun a => ixOf Fd (st x a)).map dN)), y10, y11, y12, y13])
    (s := [some (.int z), some (e s0), some (.clo n1 cap1), some (.clo n2 cap2), some .tbs, some (.lst true (F.map e)), some (numD t e F), some rs, some (.int k), some (.lst true []), y10, y11, y12, y13]) ⟨y10, y11, rfl⟩ fun j hj s hs => by
      obtain ⟨y10, y11, rfl⟩ := hs
      have hgj : (List.range z)[j]'hj = j := by simp
      have hjz : j < z := by simpa using hj
      rw [hgj]
      have e1 := hstp j hjz
      have hpre : adds (st x) j F <+: Fd := (adds_pre2 (st x) F (by omega)).trans hFd
      have hpre2 : adds (st x) (j + 1) F <+: Fd := (adds_pre2 (st x) F (by omega)).trans hFd
      have hk : (adds (st x) j F)[k]? = some x := by
        obtain ⟨u, hu⟩ := adds_pre (st x) j F
        rw [← hu, List.getElem?_append_left (List.getElem?_eq_some_iff.mp hx).1]; exact hx
      have hAl := hpre.length_le
      have hAl2 := hpre2.length_le
      have hidx : ∀ H : List α, H <+: Fd → st x j ∈ H → ixOf H (st x j) = ixOf Fd (st x j) := fun H hp hm => (idx_pre hp hm).symm
      have hrow : (List.range (j + 1)).map (fun a => ixOf Fd (st x a)) = (List.range j).map (fun a => ixOf Fd (st x a)) ++ [ixOf Fd (st x j)] := by rw [List.range_succ, List.map_append]; rfl
      have hrl : ((List.range j).map fun a => ixOf Fd (st x a)).length = j := by simp
      have hadd : adds (st x) (j + 1) F = if st x j ∈ adds (st x) j F then adds (st x) j F else adds (st x) j F ++ [st x j] := rfl
      generalize hA : adds (st x) j F = A at *
      generalize hRr : (List.range j).map (fun a => ixOf Fd (st x a)) = rr at *
      rw [hrow]
      generalize hB : adds (st x) (j + 1) F = B at *
      have hkl : k < A.length := (List.getElem?_eq_some_iff.mp hk).1
      have hkg : A[k] = x := (List.getElem?_eq_some_iff.mp hk).2
      have hsx := he.still x
      have hfx := he.frz x
      have hnx := he.noc x
      have hkx := he.kok (st x j)
      have hsy := he.still (st x j)
      have hmm := memD_e he (st x j) A
      have hjl : j ≤ 16777215 := by omega
      have hjl2 : j < 16777216 := by omega
      have hAl3 : A.length < 16777216 := by omega
      have hAl4 : A.length ≤ 16777216 := by omega
      generalize hy : st x j = y at *
      by_cases hin : y ∈ A
      · rw [if_pos hin] at hadd
        subst hadd
        have hdv := dval_num0 he hin
        rw [hidx B hpre hin] at hdv
        refine ⟨[some (.int z), some (e s0), some (.clo n1 cap1), some (.clo n2 cap2), some .tbs, some (.lst true (B.map e)), some (numD t e B), some rs, some (.int k), some (.lst true (rr.map dN)), some (.int (j : Nat)), y11, y12, y13], [some (.int z), some (e s0), some (.clo n1 cap1), some (.clo n2 cap2), some .tbs, some (.lst true (B.map e)), some (numD t e B), some rs, some (.int k), some (.lst true ((rr ++ [ixOf Fd y]).map dN)), some (.int (j : Nat)), some (e y), y12, y13], rfl, ?_, ⟨_, _, rfl⟩⟩
        generalize ixOf Fd y = iy at *
        simp only [numD]
        try simp at e1 hdv hmm
        simp -implicitDefEqProofs [b_explored_0_1, hg, hkl, hkg, hsx, hfx, hnx, e1, hmm, hin, hkx, hsy, hdv, getK, own, calledC, line, hrl, hjl2, noClos, isDic, sizeLine_eq]
      · rw [if_neg hin] at hadd
        subst hadd
        have hin2 : y ∈ A ++ [y] := by simp
        have hdv := dval_num0 he hin2
        have hix := hidx (A ++ [y]) hpre2 hin2
        rw [hix] at hdv
        have hdp := dput_num he hin
        refine ⟨[some (.int z), some (e s0), some (.clo n1 cap1), some (.clo n2 cap2), some .tbs, some (.lst true (A.map e)), some (numD t e A), some rs, some (.int k), some (.lst true (rr.map dN)), some (.int (j : Nat)), y11, y12, y13], [some (.int z), some (e s0), some (.clo n1 cap1), some (.clo n2 cap2), some .tbs, some (.lst true ((A ++ [y]).map e)), some (numD t e (A ++ [y])), some rs, some (.int k), some (.lst true ((rr ++ [ixOf Fd y]).map dN)), some (.int (j : Nat)), some (e y), y12, y13], rfl, ?_, ⟨_, _, rfl⟩⟩
        generalize ixOf Fd y = iy at *
        simp only [numD] at hdp ⊢
        generalize hks : List.map e (A ++ [y]) = ks2 at *
        generalize hds : (List.range (A ++ [y]).length).map dN = ds2 at *
        try simp at e1 hdv hmm hdp
        simp -implicitDefEqProofs [b_explored_0_1, hg, hkl, hkg, hsx, hfx, hnx, e1, hmm, hin, hkx, hsy, hdv, hdp, getK, own, calledC, line, hrl, hjl2, hAl3, noClos, isDic, sizeLine_eq]
        rw [← hks]; simp
  rw [List.length_range] at h1
  exact ⟨y10', y11', h1⟩
/-- what the call promises -/
theorem ex_loop (he : EnK t e) {G : Env0A} {W n1 n2 z : Nat} {cap1 cap2 : List D} {g1 : Callee} {st : α → Nat → α} {Fd : List α} {s0 : α} (hW : 1000 < W) (hg : G n1 = some g1) (hD : ExDone st z s0 Fd) (hstp : ∀ x, x ∈ Fd → ∀ a, a < z → g1 (e x :: .int a :: cap1) = .ok (e (st x a)) []) (hl : Fd.length ≤ 1000) (hz : z ≤ 1000) :
    ∃ y9 y10 y11, whileL (fun s => evT G W t_explored_0_2 s) (fun s => exs G W [4] b_explored_0_3 s) W [some (.int z), some (e s0), some (.clo n1 cap1), some (.clo n2 cap2), some .tbs, some (.lst true ([s0].map e)), some (numD t e [s0]), some (.lst true []), some (.int (0 : Nat)), none, none, none, none, none] =
      .nx [some (.int z), some (e s0), some (.clo n1 cap1), some (.clo n2 cap2), some .tbs, some (.lst true (Fd.map e)), some (numD t e Fd), some (.lst true ((rowsE st z Fd).map (lT dN))), some (.int (Fd.length : Nat)), y9, y10, y11, none, none] := by
  have loop := whileL_inv (c := fun s => evT G W t_explored_0_2 s) (st := fun s => exs G W [4] b_explored_0_3 s)
    (I := fun m s => ∃ k y9 y10 y11, k + m = Fd.length ∧ s = [some (.int z), some (e s0), some (.clo n1 cap1), some (.clo n2 cap2), some .tbs, some (.lst true ((xpl st z s0 k).map e)), some (numD t e (xpl st z s0 k)), some (.lst true (((Fd.take k).map (rowE st z Fd)).map (lT dN))), some (.int (k : Nat)), y9, y10, y11, none, none])
    (Q := fun s => ∃ y9 y10 y11, s = [some (.int z), some (e s0), some (.clo n1 cap1), some (.clo n2 cap2), some .tbs, some (.lst true (Fd.map e)), some (numD t e Fd), some (.lst true ((rowsE st z Fd).map (lT dN))), some (.int (Fd.length : Nat)), y9, y10, y11, none, none])
    (fun m s hI => by
      obtain ⟨k, y9, y10, y11, hkm, rfl⟩ := hI
      by_cases hm : m = 0
      · subst hm
        have hk : k = Fd.length := by omega
        subst hk
        rw [(hD.at_ 0).1, List.take_length]
        refine .inl ⟨[some (.int z), some (e s0), some (.clo n1 cap1), some (.clo n2 cap2), some .tbs, some (.lst true (Fd.map e)), some (numD t e Fd), some (.lst true ((rowsE st z Fd).map (lT dN))), some (.int (Fd.length : Nat)), y9, y10, y11, none, none], ?_, y9, y10, y11, rfl⟩
        simp only [rowsE]
        generalize (Fd.map (rowE st z Fd)).map (lT dN) = RR
        simp -implicitDefEqProofs [t_explored_0_2]
      · have hk : k < Fd.length := by omega
        have hkx := hD.lt k hk
        have hpk : xpl st z s0 k <+: Fd := by
          have := xpl_pre (st := st) (z := z) (s0 := s0) (Nat.le_of_lt hk)
          rwa [(hD.at_ 0).1] at this
        have hpk2 : xpl st z s0 (k + 1) <+: Fd := by
          have := xpl_pre (st := st) (z := z) (s0 := s0) (show k + 1 ≤ Fd.length from hk)
          rwa [(hD.at_ 0).1] at this
        have hx : (xpl st z s0 k)[k]? = some Fd[k] := by
          have h1 := List.prefix_iff_getElem?.mp hpk k hkx
          rw [List.getElem?_eq_getElem hk] at h1
          rw [List.getElem?_eq_getElem hkx]; exact h1.symm
        have hxs : xpl st z s0 (k + 1) = adds (st Fd[k]) z (xpl st z s0 k) := by
          show (match (xpl st z s0 k)[k]? with | some x => adds (st x) z (xpl st z s0 k) | none => xpl st z s0 k) = _
          rw [hx]
        rw [hxs] at hpk2
        have htk : ((Fd.take (k + 1)).map (rowE st z Fd)).map (lT dN) = ((Fd.take k).map (rowE st z Fd)).map (lT dN) ++ [lT dN (rowE st z Fd Fd[k])] := by
          rw [← List.take_append_getElem hk, List.map_append, List.map_append]; rfl
        obtain ⟨y10', y11', hi⟩ := ex_inner he (G := G) (W := W) (n2 := n2) (cap2 := cap2) (s0 := s0) (y10 := y10) (y11 := y11) (y12 := none) (y13 := none) (rs := .lst true (((Fd.take k).map (rowE st z Fd)).map (lT dN))) hg hx (hstp Fd[k] (List.getElem_mem hk)) hpk2 hl hz
        have hrl : (((Fd.take k).map (rowE st z Fd)).map (lT dN)).length < 16777216 := by
          simp only [List.length_map, List.length_take]; omega
        refine .inr ⟨[some (.int z), some (e s0), some (.clo n1 cap1), some (.clo n2 cap2), some .tbs, some (.lst true ((xpl st z s0 k).map e)), some (numD t e (xpl st z s0 k)), some (.lst true (((Fd.take k).map (rowE st z Fd)).map (lT dN))), some (.int (k : Nat)), y9, y10, y11, none, none],
          [some (.int z), some (e s0), some (.clo n1 cap1), some (.clo n2 cap2), some .tbs, some (.lst true ((xpl st z s0 (k + 1)).map e)), some (numD t e (xpl st z s0 (k + 1))), some (.lst true (((Fd.take (k + 1)).map (rowE st z Fd)).map (lT dN))), some (.int ((k + 1 : Nat) : Nat)), some (.lst false ((rowE st z Fd Fd[k]).map dN)), y10', y11', none, none], m - 1, ?_, .inl ?_, ⟨k + 1, _, _, _, by omega, rfl⟩, by omega⟩
        · generalize ((Fd.take k).map (rowE st z Fd)).map (lT dN) = RR
          simp -implicitDefEqProofs [t_explored_0_2, hkx]
        · rw [htk, hxs]
          generalize ((Fd.take k).map (rowE st z Fd)).map (lT dN) = RR at *
          generalize rowE st z Fd Fd[k] = row at *
          have hzz : z < 1000000 := by omega
          have hzz2 : z ≤ 16777216 := by omega
          generalize adds (st Fd[k]) z (xpl st z s0 k) = B at *
          simp only [numD] at hi ⊢
          generalize (List.range B.length).map dN = ds2 at *
          generalize (List.range (xpl st z s0 k).length).map dN = ds1 at *
          try simp at hi
          simp -implicitDefEqProofs [b_explored_0_3, hzz, hzz2, hi, hrl, line, lT, sizeLine_eq]
          )
  have h0 : xpl st z s0 0 = [s0] := rfl
  obtain ⟨s', h1, y9, y10, y11, rfl⟩ := loop W Fd.length (s := [some (.int z), some (e s0), some (.clo n1 cap1), some (.clo n2 cap2), some .tbs, some (.lst true ([s0].map e)), some (numD t e [s0]), some (.lst true []), some (.int (0 : Nat)), none, none, none, none, none]) ⟨0, none, none, none, by omega, by rw [h0]; rfl⟩ (by omega)
  exact ⟨y9, y10, y11, h1⟩
end
theorem noLs_mapT {α : Type} (f : α → D) (h : ∀ x, noL (f x) = true) : ∀ l : List α, noLs (l.map f) = true
  | [] => rfl
  | x :: l => by simp only [List.map_cons, noLs, h, noLs_mapT f h l, Bool.and_self]
theorem noL_auD (z s : Nat) (fs : List Nat) (R : List (List Nat)) : noL (auD true z s fs R) = true := by
  have h1 : noLs (fs.map dN) = true := noLs_mapT dN (fun _ => rfl) fs
  have h2 : noLs (R.map tN) = true := noLs_mapT tN (fun l => by simp only [tN, noL]; exact noLs_mapT dN (fun _ => rfl) l) R
  simp only [auD, noL, noLs, h1, h2, Bool.and_self]
/-- explored, functions handed over that GE tells -/
def ExplOk (GE : Env0A) (t : Nat) (g : Callee) : Prop := ∀ (α : Type) [DecidableEq α] (e : α → D) (n1 n2 z : Nat) (cap1 cap2 : List D) (g1 g2 : Callee) (st : α → Nat → α) (fin : α → Bool) (s0 : α) (Fd : List α), EnK t e → GE n1 = some g1 → GE n2 = some g2 → ExDone st z s0 Fd →
  (∀ x, x ∈ Fd → ∀ a, a < z → g1 (e x :: .int a :: cap1) = .ok (e (st x a)) []) → (∀ x, x ∈ Fd → g2 (e x :: cap2) = .ok (.bl (fin x)) []) → Fd.length ≤ 1000 → 1 ≤ z → z ≤ 1000 →
  g [.int z, e s0, .clo n1 cap1, .clo n2 cap2, .tbs] = .ok (auD true z 0 (finsE fin Fd) (rowsE st z Fd)) [.tbs]
theorem fEx_ok {G : Env0A} {W t : Nat} (hW : 1000 < W) (hI : Has G 58 AutInitOk) : ExplOk G t (runF G W (fEx t)) := by
  intro α _ e n1 n2 z cap1 cap2 g1 g2 st fin s0 Fd he hg1 hg2 hD hstp hfin hl hz1 hz
  obtain ⟨gI, hgI, hI⟩ := hI
  obtain ⟨y9, y10, y11, e1⟩ := ex_loop he (G := G) (n2 := n2) (cap2 := cap2) hW hg1 hD hstp hl hz
  have haut := ex_aut (fin := fin) hD hz1
  have hRl : (rowsE st z Fd).length = Fd.length := by simp [rowsE]
  have e2 := hI z 0 (finsE fin Fd) (rowsE st z Fd) haut hz (by rw [hRl]; exact hl)
  have hs0 := he.still s0
  have hf0 := he.frz s0
  have hk0 := he.kok s0
  generalize hRR : rowsE st z Fd = RR at *
  have hcomp := compL_map (f := fun s => (evTo G W t_explored_0_5 s).noRz) (g := fun s => (ev G W false e_explored_0_4 s).noRz) (own := 13)
    (s := [some (.int z), some (e s0), some (.clo n1 cap1), some (.clo n2 cap2), some .tbs, some (.lst true (Fd.map e)), some (numD t e Fd), some (.lst true (RR.map (lT dN))), some (.int (Fd.length : Nat)), y9, y10, y11, none, none]) rfl dN (fun k => (Fd[k]?.map fin).getD false) dN (List.range Fd.length) fun k hk => by
      have hk := List.mem_range.mp hk
      have hkx : Fd[k]? = some Fd[k] := List.getElem?_eq_getElem hk
      have e3 := hfin Fd[k] (List.getElem_mem hk)
      have hsx := he.still Fd[k]
      have hfx := he.frz Fd[k]
      have hnx := he.noc Fd[k]
      rw [hkx]
      generalize hx : Fd[k] = x at *
      generalize RR.map (lT dN) = RRm
      constructor
      · simp -implicitDefEqProofs [t_explored_0_5, hg2, hk, hx, hsx, hfx, hnx, e3, own, calledC, noClos]
      · intro _
        simp -implicitDefEqProofs [e_explored_0_4]
  have hfs : ((List.range Fd.length).filter fun k => (Fd[k]?.map fin).getD false) = finsE fin Fd := rfl
  rw [hfs] at hcomp
  generalize finsE fin Fd = fs at *
  have hll : Fd.length < 1000000 := by omega
  have hll2 : Fd.length ≤ 16777216 := by omega
  have hsr : stills (RR.map (lT dN)) = true := stills_mapT (lT dN) (fun r => by simp [lT, still]) RR
  have hfz : frzs (RR.map (lT dN)) = RR.map (lT dN) := frzs_mapE _ _ (fun r => by simp only [frz, lT, frzs_dN]) RR
  have hnl : noL (auD true z 0 fs RR) = true := noL_auD z 0 fs RR
  have hn0 : numD t e [s0] = .dic true t [e s0] [.int 0] := rfl
  rw [hn0] at e1
  generalize numD t e Fd = nd at *
  simp only [auD] at e2 hnl ⊢
  generalize RR.map (lT dN) = RRm at *
  try simp at e1 e2 hcomp hnl
  simp -implicitDefEqProofs [runF, fEx, hs0, hf0, hk0, e1, hcomp, hll, hll2, hgI, e2, hsr, hfz, hnl, own, made, lent]
/-! Abm132: classes of states with the same future (plainly) -/
section
variable {σ τ : Type} [DecidableEq σ] [DecidableEq τ]
def fstsA : List σ → List σ → List σ
  | acc, [] => acc
  | acc, x :: l => fstsA (if x ∈ acc then acc else acc ++ [x]) l
def fsts (l : List σ) : List σ := fstsA [] l
def canon (l : List σ) : List Nat := l.map fun x => ixOf (fsts l) x
theorem fstsA_mem (x : σ) : ∀ (l acc : List σ), x ∈ fstsA acc l ↔ x ∈ acc ∨ x ∈ l
  | [], acc => by simp [fstsA]
  | y :: l, acc => by
    rw [fstsA, fstsA_mem x l]
    split
    · rename_i h
      simp only [List.mem_cons]
      constructor
      · rintro (h1 | h1)
        · exact .inl h1
        · exact .inr (.inr h1)
      · rintro (h1 | rfl | h1)
        · exact .inl h1
        · exact .inl h
        · exact .inr h1
    · simp only [List.mem_append, List.mem_singleton, List.mem_cons, or_assoc, List.not_mem_nil, false_or]
theorem fsts_mem {x : σ} {l : List σ} : x ∈ fsts l ↔ x ∈ l := by simp [fsts, fstsA_mem]
theorem fstsA_nodup : ∀ (l : List σ) {acc : List σ}, acc.Nodup → (fstsA acc l).Nodup
  | [], acc, h => h
  | y :: l, acc, h => by
    rw [fstsA]
    split
    · exact fstsA_nodup l h
    · rename_i hn
      refine fstsA_nodup l ?_
      rw [List.nodup_append]
      exact ⟨h, by simp, fun a ha b hb => by rw [List.mem_singleton.mp hb]; rintro rfl; exact hn ha⟩
theorem fsts_nodup (l : List σ) : (fsts l).Nodup := fstsA_nodup l (by simp)
theorem fstsA_map (φ : σ → τ) : ∀ (l acc : List σ), (∀ x y, x ∈ acc ++ l → y ∈ acc ++ l → φ x = φ y → x = y) → fstsA (acc.map φ) (l.map φ) = (fstsA acc l).map φ
  | [], acc, h => rfl
  | y :: l, acc, h => by
    have hm : φ y ∈ acc.map φ ↔ y ∈ acc := by
      constructor
      · intro hy
        obtain ⟨x, hx, e⟩ := List.mem_map.mp hy
        have := h x y (by simp [hx]) (by simp) e
        rwa [← this]
      · exact fun hy => List.mem_map_of_mem hy
    rw [List.map_cons, fstsA, fstsA]
    by_cases hy : y ∈ acc
    · rw [if_pos hy, if_pos (hm.mpr hy)]
      exact fstsA_map φ l acc fun a b ha hb => h a b (by simp at ha ⊢; rcases ha with q | q <;> simp [q]) (by simp at hb ⊢; rcases hb with q | q <;> simp [q])
    · rw [if_neg hy, if_neg (fun z => hy (hm.mp z))]
      have := fstsA_map φ l (acc ++ [y]) fun a b ha hb => h a b (by simpa using ha) (by simpa using hb)
      rw [List.map_append] at this
      exact this
theorem fsts_map (φ : σ → τ) {l : List σ} (h : ∀ x y, x ∈ l → y ∈ l → φ x = φ y → x = y) : fsts (l.map φ) = (fsts l).map φ := fstsA_map φ l [] (by simpa using h)
theorem idx_map (φ : σ → τ) {l : List σ} {x : σ} (h : ∀ y, y ∈ l → φ y = φ x → y = x) : (l.map φ).idxOf (φ x) = l.idxOf x := by
  induction l with
  | nil => rfl
  | cons y l ih =>
    rw [List.map_cons, List.idxOf_cons, List.idxOf_cons, ih fun z hz => h z (List.mem_cons_of_mem _ hz)]
    by_cases e : y = x
    · simp [e]
    · have e2 : ¬ φ y = φ x := fun z => e (h y (by simp) z)
      rw [show (y == x) = false by simpa using e, show (φ y == φ x) = false by simpa using e2]
theorem canon_map (φ : σ → τ) {l : List σ} (h : ∀ x y, x ∈ l → y ∈ l → φ x = φ y → x = y) : canon (l.map φ) = canon l := by
  rw [canon, canon, fsts_map φ h, List.map_map]
  refine List.map_congr_left fun x hx => ?_
  exact idx_map φ fun y hy e => h y x (fsts_mem.mp hy) hx e
/-- which places bear the same -/
def Ker (l : List σ) (a b : Nat) : Prop := l[a]? = l[b]?
theorem ker_fun {l : List σ} {m : List τ} (hl : l.length = m.length) (h : ∀ a b, a < l.length → b < l.length → Ker l a b → Ker m a b) (hn : m ≠ []) : ∃ φ : σ → τ, m = l.map φ := by
  obtain ⟨d, hd⟩ : ∃ d, d ∈ m := List.exists_mem_of_ne_nil m hn
  refine ⟨fun x => m.getD (l.idxOf x) d, List.ext_getElem (by simp [hl]) fun k h1 h2 => ?_⟩
  have hk : k < l.length := by omega
  have hi : l.idxOf l[k] < l.length := List.idxOf_lt_length_iff.mpr (List.getElem_mem hk)
  have e : l[l.idxOf l[k]] = l[k] := List.getElem_idxOf hi
  have := h (l.idxOf l[k]) k hi hk (by unfold Ker; rw [List.getElem?_eq_getElem hi, List.getElem?_eq_getElem hk, e])
  unfold Ker at this
  rw [List.getElem_map, List.getD_eq_getElem?_getD, this, List.getElem?_eq_getElem h1]
  rfl
theorem canon_ker {l : List σ} {m : List τ} (hl : l.length = m.length) (h : ∀ a b, a < l.length → b < l.length → (Ker l a b ↔ Ker m a b)) : canon m = canon l := by
  by_cases hn : m = []
  · subst hn
    have : l = [] := List.length_eq_zero_iff.mp (by simpa using hl)
    subst this; rfl
  · obtain ⟨φ, rfl⟩ := ker_fun hl (fun a b ha hb k => (h a b ha hb).mp k) hn
    refine canon_map φ fun x y hx hy e => ?_
    obtain ⟨a, ha, rfl⟩ := List.getElem_of_mem hx
    obtain ⟨b, hb, rfl⟩ := List.getElem_of_mem hy
    have := (h a b ha hb).mpr (by unfold Ker; simp [ha, hb, e])
    unfold Ker at this
    rw [List.getElem?_eq_getElem ha, List.getElem?_eq_getElem hb] at this
    exact Option.some.inj this
theorem canon_len (l : List σ) : (canon l).length = l.length := by simp [canon]
theorem ker_canon (l : List σ) {a b : Nat} (ha : a < l.length) (hb : b < l.length) : Ker (canon l) a b ↔ Ker l a b := by
  unfold Ker canon ixOf
  rw [List.getElem?_map, List.getElem?_map, List.getElem?_eq_getElem ha, List.getElem?_eq_getElem hb]
  simp only [Option.map_some, Option.some.injEq]
  constructor
  · intro e
    have h1 : (fsts l).idxOf l[a] < (fsts l).length := List.idxOf_lt_length_iff.mpr (fsts_mem.mpr (List.getElem_mem ha))
    have h2 : (fsts l).idxOf l[b] < (fsts l).length := List.idxOf_lt_length_iff.mpr (fsts_mem.mpr (List.getElem_mem hb))
    have e1 := List.getElem_idxOf h1
    have e2 := List.getElem_idxOf h2
    rw [← e1, ← e2]
    simp [e]
  · intro e; rw [e]
theorem fsts_le (l : List σ) : (fsts l).length ≤ l.length := nodup_le (fsts_nodup l) fun x hx => fsts_mem.mp hx
/-- a finer list with no more values tells the same -/
theorem ker_same {l : List σ} {m : List τ} (hl : l.length = m.length) (h : ∀ a b, a < l.length → b < l.length → Ker l a b → Ker m a b) (hc : (fsts l).length ≤ (fsts m).length) : ∀ a b, a < l.length → b < l.length → Ker m a b → Ker l a b := by
  intro a b ha hb hab
  have hn : m ≠ [] := by
    intro z; subst z
    rw [List.length_nil] at hl; omega
  obtain ⟨φ, rfl⟩ := ker_fun hl h hn
  unfold Ker at hab ⊢
  rw [List.getElem?_map, List.getElem?_map, List.getElem?_eq_getElem ha, List.getElem?_eq_getElem hb] at hab
  rw [List.getElem?_eq_getElem ha, List.getElem?_eq_getElem hb]
  simp only [Option.map_some, Option.some.injEq] at hab ⊢
  refine Classical.byContradiction fun hne => ?_
  have hx : l[a] ∈ fsts l := fsts_mem.mpr (List.getElem_mem ha)
  have hle : (fsts (l.map φ)).length ≤ (((fsts l).erase l[a]).map φ).length := nodup_le (fsts_nodup _) fun y hy => by
    obtain ⟨x, hx, rfl⟩ := List.mem_map.mp (fsts_mem.mp hy)
    by_cases e : x = l[a]
    · rw [e, hab]
      exact List.mem_map_of_mem ((List.Nodup.mem_erase_iff (fsts_nodup l)).mpr ⟨fun z => hne z.symm, fsts_mem.mpr (List.getElem_mem hb)⟩)
    · exact List.mem_map_of_mem ((List.Nodup.mem_erase_iff (fsts_nodup l)).mpr ⟨e, fsts_mem.mpr hx⟩)
  rw [List.length_map, List.length_erase_of_mem hx] at hle
  have : 0 < (fsts l).length := List.length_pos_of_mem hx
  omega
theorem cnt_mono {l : List σ} {m : List τ} (hl : l.length = m.length) (h : ∀ a b, a < l.length → b < l.length → Ker l a b → Ker m a b) : (fsts m).length ≤ (fsts l).length := by
  by_cases hn : m = []
  · subst hn; exact Nat.zero_le _
  · obtain ⟨φ, rfl⟩ := ker_fun hl h hn
    have := nodup_le (m := (fsts l).map φ) (fsts_nodup (l.map φ)) fun y hy => by
      obtain ⟨x, hx, rfl⟩ := List.mem_map.mp (fsts_mem.mp hy)
      exact List.mem_map_of_mem (fsts_mem.mpr hx)
    rwa [List.length_map] at this
end
/-! the classes -/
def sgA (R : List (List Nat)) (c : List Nat) (k : Nat) : Nat × List Nat := (c.getD k 0, (R.getD k []).map fun y => c.getD y 0)
def sg (R : List (List Nat)) (c : List Nat) : List (Nat × List Nat) := (List.range R.length).map (sgA R c)
def c0 (fs : List Nat) (n : Nat) : List Nat := (List.range n).map fun k => if k ∈ fs then 1 else 0
def clsJ (R : List (List Nat)) (fs : List Nat) : Nat → List Nat
  | 0 => c0 fs R.length
  | j + 1 => canon (sg R (clsJ R fs j))
def cls (R : List (List Nat)) (fs : List Nat) : List Nat := clsJ R fs R.length
section
variable {z s : Nat} {fs : List Nat} {R : List (List Nat)}
theorem sg_len (c : List Nat) : (sg R c).length = R.length := by simp [sg]
theorem clsJ_len : ∀ j, (clsJ R fs j).length = R.length
  | 0 => by simp [clsJ, c0]
  | j + 1 => by rw [clsJ, canon_len, sg_len]
theorem ker_sg (c : List Nat) (hl : c.length = R.length) {a b : Nat} (ha : a < R.length) (hb : b < R.length) : Ker (sg R c) a b ↔ sgA R c a = sgA R c b := by
  unfold Ker sg
  simp [ha, hb]
theorem ker_get {c : List Nat} {a b : Nat} (ha : a < c.length) (hb : b < c.length) : Ker c a b ↔ c.getD a 0 = c.getD b 0 := by
  unfold Ker
  simp [List.getD_eq_getElem?_getD, ha, hb]
theorem sg_fine (c : List Nat) (hl : c.length = R.length) {a b : Nat} (ha : a < R.length) (hb : b < R.length) (h : Ker (sg R c) a b) : Ker c a b := by
  rw [ker_get (by omega) (by omega)]
  have := (ker_sg c hl ha hb).mp h
  exact congrArg Prod.fst this
theorem sg_same (hR : Aut z s fs R) {c d : List Nat} (hc : c.length = R.length) (hd : d.length = R.length) (h : ∀ a b, a < R.length → b < R.length → (Ker c a b ↔ Ker d a b)) {a b : Nat} (ha : a < R.length) (hb : b < R.length) : Ker (sg R c) a b ↔ Ker (sg R d) a b := by
  rw [ker_sg c hc ha hb, ker_sg d hd ha hb]
  have h2 : ∀ x y, x < R.length → y < R.length → (c.getD x 0 = c.getD y 0 ↔ d.getD x 0 = d.getD y 0) := fun x y hx hy => by
    rw [← ker_get (by omega) (by omega), ← ker_get (by omega) (by omega)]; exact h x y hx hy
  have ea : R.getD a [] = R[a] := by simp [ha]
  have eb : R.getD b [] = R[b] := by simp [hb]
  obtain ⟨la, pa⟩ := hR.row _ (List.getElem_mem ha)
  obtain ⟨lb, pb⟩ := hR.row _ (List.getElem_mem hb)
  have rows : ∀ (l m : List Nat), (∀ x, x ∈ l → x < R.length) → (∀ x, x ∈ m → x < R.length) → (l.map (fun y => c.getD y 0) = m.map (fun y => c.getD y 0) ↔ l.map (fun y => d.getD y 0) = m.map (fun y => d.getD y 0)) := by
    intro l
    induction l with
    | nil => intro m _ _; cases m <;> simp
    | cons x l ih =>
      intro m h1 h2'
      cases m with
      | nil => simp
      | cons y m =>
        simp only [List.map_cons, List.cons.injEq]
        rw [h2 x y (h1 x (by simp)) (h2' y (by simp)), ih m (fun q hq => h1 q (List.mem_cons_of_mem _ hq)) fun q hq => h2' q (List.mem_cons_of_mem _ hq)]
  unfold sgA
  rw [Prod.mk.injEq, Prod.mk.injEq, h2 a b ha hb, ea, eb, rows _ _ pa pb]
theorem clsJ_fine (j : Nat) {a b : Nat} (ha : a < R.length) (hb : b < R.length) (h : Ker (clsJ R fs (j + 1)) a b) : Ker (clsJ R fs j) a b := by
  rw [clsJ, ker_canon _ (by rw [sg_len]; exact ha) (by rw [sg_len]; exact hb)] at h
  exact sg_fine _ (clsJ_len j) ha hb h
theorem cnt_up (j : Nat) : (fsts (clsJ R fs j)).length ≤ (fsts (clsJ R fs (j + 1))).length := cnt_mono (by rw [clsJ_len, clsJ_len]) fun a b ha hb h => by
  rw [clsJ_len] at ha hb
  exact clsJ_fine j ha hb h
theorem cnt_le (j : Nat) : (fsts (clsJ R fs j)).length ≤ R.length := by
  have := fsts_le (clsJ R fs j)
  rwa [clsJ_len] at this
/-- no new class: nothing changes any more -/
theorem clsJ_stay (hR : Aut z s fs R) {j : Nat} (h : (fsts (clsJ R fs (j + 1))).length = (fsts (clsJ R fs j)).length) : clsJ R fs (j + 2) = clsJ R fs (j + 1) := by
  have same : ∀ a b, a < R.length → b < R.length → (Ker (clsJ R fs (j + 1)) a b ↔ Ker (clsJ R fs j) a b) := fun a b ha hb => ⟨clsJ_fine j ha hb, fun k => by
    refine ker_same (by rw [clsJ_len, clsJ_len]) (fun a b ha hb h => ?_) (by omega) a b (by rw [clsJ_len]; exact ha) (by rw [clsJ_len]; exact hb) k
    rw [clsJ_len] at ha hb
    exact clsJ_fine j ha hb h⟩
  show canon (sg R (clsJ R fs (j + 1))) = canon (sg R (clsJ R fs j))
  refine canon_ker (by rw [sg_len, sg_len]) fun a b ha hb => ?_
  rw [sg_len] at ha hb
  exact (sg_same hR (clsJ_len _) (clsJ_len _) same ha hb).symm
theorem clsJ_const (hR : Aut z s fs R) {j : Nat} (h : (fsts (clsJ R fs (j + 1))).length = (fsts (clsJ R fs j)).length) : ∀ k, j + 1 ≤ k → clsJ R fs k = clsJ R fs (j + 1) := by
  have step : ∀ d, clsJ R fs (j + 1 + d) = clsJ R fs (j + 1) := by
    intro d
    induction d with
    | zero => rfl
    | succ d ih =>
      show canon (sg R (clsJ R fs (j + 1 + d))) = _
      rw [ih]
      exact clsJ_stay hR h
  intro k hk
  have := step (k - (j + 1))
  rwa [show j + 1 + (k - (j + 1)) = k by omega] at this
theorem cnt0 (hR : Aut z s fs R) : 1 ≤ (fsts (clsJ R fs 0)).length := by
  have h : 0 < R.length := Nat.lt_of_le_of_lt (Nat.zero_le _) hR.st
  have : (clsJ R fs 0)[0]'(by rw [clsJ_len]; exact h) ∈ fsts (clsJ R fs 0) := fsts_mem.mpr (List.getElem_mem _)
  exact List.length_pos_of_mem this
theorem cls_at (hR : Aut z s fs R) {j : Nat} (hj : j + 1 ≤ R.length) (h : (fsts (clsJ R fs (j + 1))).length = (fsts (clsJ R fs j)).length) : clsJ R fs (j + 1) = cls R fs := (clsJ_const hR h R.length hj).symm
theorem cls_len : (cls R fs).length = R.length := clsJ_len _
end
/-! Abm133: classes_of -/
def eSg (x : Nat × List Nat) : D := .tup [.int (x.1 : Nat), .tup (x.2.map dN)]
theorem heqSg (a b : Nat × List Nat) : eqD (eSg a) (eSg b) = decide (a = b) := by
  obtain ⟨d, s⟩ := a
  obtain ⟨d', s'⟩ := b
  have h1 : eqD (.tup (s.map dN)) (.tup (s'.map dN)) = decide (s = s') := eqD_tupm (f := dN) s s'
  have h2 : eqD (.int (d : Nat)) (.int (d' : Nat)) = decide (d = d') := by
    have := En.eq (f := dN) d d'
    exact this
  simp only [eSg, eqD_two, h1, h2, Prod.mk.injEq, Bool.decide_and]
theorem kOkSg (x : Nat × List Nat) : kOk 2 (eSg x) = true := by
  obtain ⟨d, s⟩ := x
  have h := kOkA' s (d : Int)
  simp only [kOk, eSg] at h ⊢
  simp only [nOks, nOk, nk, nks, Bool.and_true, Bool.true_and, PySem.NestedKey.depth, PySem.NestedKey.depthAll] at h ⊢
  revert h
  simp [Nat.max_comm]
theorem frzSg (x : Nat × List Nat) : frz (eSg x) = eSg x := rfl
theorem enSg : EnK 2 eSg := ⟨heqSg, kOkSg, fun _ => rfl, fun x => by
  have : ∀ l : List Nat, noClos (l.map dN) = true := fun l => by
    induction l with
    | nil => rfl
    | cons y l ih => simp only [List.map_cons, noClos, ih, dN_ap, noClo, Bool.and_self]
  simp only [eSg, noClo, noClos, this, Bool.and_self], frzSg⟩
theorem lset_cnt {c : List Nat} {m : Bool} (h : c.length < 4000) : bi1 .lset (.lst m (c.map dN)) = some (.int ((fsts c).length : Nat)) := by
  have e : ((fsts c).map fun n : Nat => (n : Int)).length = (sset (c.map fun n : Nat => (n : Int))).length := sset_len ((fsts_nodup c).map _ fun a b h1 h2 => h1 (by omega)) fun k => by
    simp only [List.mem_map, fsts_mem]
  rw [List.length_map] at e
  simp only [bi1, intsOf_dN, Option.bind_some, List.length_map, if_pos h, e]
theorem forV_st {α : Type} {st : SA → Fl} {g : MG} {i : Nat} (e : α → D) (he : ∀ a, still (e a) = true) (l : List α) (hg : g.slots.contains i = false) (n : Nat) (hn : l.length < n) (I : Nat → SA → Prop) {s : SA} (h0 : I 0 s)
    (hrd : ∀ k s, I k s → rd s i = some (.lst true (l.map e)))
    (hs : ∀ (k : Nat) (hk : k < l.length) (s : SA), I k s → ∃ s1 s2, asgG g (e l[k]) s = some s1 ∧ st s1 = .nx s2 ∧ I (k + 1) s2) :
    ∃ s', forV st g i n 0 s = .nx s' ∧ I l.length s' :=
  forV_ok e he l hg n hn I h0 hrd fun k hk s hi => by
    obtain ⟨s1, s2, e1, e2, h⟩ := hs k hk s hi
    rw [e1]; show Nx _ (st s1); rw [e2]; exact h
theorem fstsA_snoc {σ : Type} [DecidableEq σ] (x : σ) : ∀ (l acc : List σ), fstsA acc (l ++ [x]) = if x ∈ fstsA acc l then fstsA acc l else fstsA acc l ++ [x]
  | [], acc => rfl
  | y :: l, acc => by
    rw [List.cons_append, fstsA, fstsA]
    exact fstsA_snoc x l _
@[local simp] theorem lend_dic {m : Bool} {t : Nat} {ks ds : List D} : bi1 .lend (.dic m t ks ds) = some (.int ks.length) := rfl
section
variable {z s : Nat} {fs : List Nat} {R : List (List Nat)}
theorem cls_row {G : Env0A} {W : Nat} (hR : Aut z s fs R) {c : List Nat} (hc : c.length = R.length) {k : Nat} (hk : k < R.length) (x0 x1 x3 x4 x5 x7 x8 : Option D) :
    compL (fun s => (evTo G W .none s).noRz) (fun s => (ev G W false e_classes_of_2 s).noRz) 6 ((R[k]).map dN) [x0, x1, some (.lst true (c.map dN)), x3, x4, x5, none, x7, x8] =
      .ok ((R[k].map fun y => c.getD y 0).map dN) [x0, x1, some (.lst true (c.map dN)), x3, x4, x5, none, x7, x8] := by
  have h := compL_map (f := fun s => (evTo G W .none s).noRz) (g := fun s => (ev G W false e_classes_of_2 s).noRz) (own := 6)
    (s := [x0, x1, some (.lst true (c.map dN)), x3, x4, x5, none, x7, x8]) rfl dN (fun _ => true) (fun y => dN (c.getD y 0)) R[k] fun y hy => by
      have hyl := (hR.row _ (List.getElem_mem hk)).2 y hy
      have hyc : y < c.length := by omega
      have hg : c.getD y 0 = c[y] := by simp [hyc]
      rw [hg]
      constructor
      · simp -implicitDefEqProofs []
      · intro _
        simp -implicitDefEqProofs [e_classes_of_2, hyc]
  rw [filter_tt] at h
  rw [h, List.map_map]; rfl
theorem cls_body {G : Env0A} {W : Nat} (hW : 1000 < W) (hR : Aut z s fs R) (hn : R.length ≤ 1000) (hz : z ≤ 1000) {c : List Nat} (hc : c.length = R.length) (y3 y5 y7 y8 : Option D) (cc : Int) :
    ∃ y3' y5' y7' y8', exs G W [] b_classes_of_7 [some (auD false z s fs R), some (.tup (fs.map dN)), some (.lst true (c.map dN)), y3, some (.int cc), y5, none, y7, y8] =
      .nx [some (auD false z s fs R), some (.tup (fs.map dN)), some (.lst true ((canon (sg R c)).map dN)), y3', some (.int ((fsts c).length : Nat)), y5', none, y7', y8'] := by
  have e1 := lset_cnt (c := c) (m := true) (by omega)
  obtain ⟨s', e2, y3', rfl⟩ := for_st (st := fun s => exs G W [] b_classes_of_3 s) (g := .name 3) dN (List.range R.length)
    (fun k st => ∃ y3, st = [some (auD false z s fs R), some (.tup (fs.map dN)), some (.lst true (c.map dN)), y3, some (.int ((fsts c).length : Nat)), some (.lst true (((List.range k).map (sgA R c)).map eSg)), none, y7, y8])
    (s := [some (auD false z s fs R), some (.tup (fs.map dN)), some (.lst true (c.map dN)), y3, some (.int ((fsts c).length : Nat)), some (.lst true []), none, y7, y8]) ⟨y3, rfl⟩ fun k hk st hst => by
      obtain ⟨y3, rfl⟩ := hst
      have hgk : (List.range R.length)[k]'hk = k := by simp
      have hkl : k < R.length := by simpa using hk
      rw [hgk]
      have e3 := cls_row (G := G) (W := W) hR hc hkl (some (auD false z s fs R)) (some (.tup (fs.map dN))) (some (.int (k : Nat))) (some (.int ((fsts c).length : Nat))) (some (.lst true (((List.range k).map (sgA R c)).map eSg))) y7 y8
      have hkc : k < c.length := by omega
      have hs : (List.range (k + 1)).map (sgA R c) = (List.range k).map (sgA R c) ++ [sgA R c k] := by rw [List.range_succ, List.map_append]; rfl
      have hg1 : sgA R c k = (c[k], R[k].map fun y => c.getD y 0) := by
        unfold sgA
        simp [hkc, hkl]
      have hlen : (((List.range k).map (sgA R c)).map eSg).length < 16777216 := by simp; omega
      have hrk : ¬ 16777216 < R[k].length := by rw [(hR.row _ (List.getElem_mem hkl)).1]; omega
      rw [hs, hg1]
      refine ⟨[some (auD false z s fs R), some (.tup (fs.map dN)), some (.lst true (c.map dN)), some (.int (k : Nat)), some (.int ((fsts c).length : Nat)), some (.lst true (((List.range k).map (sgA R c)).map eSg)), none, y7, y8],
        [some (auD false z s fs R), some (.tup (fs.map dN)), some (.lst true (c.map dN)), some (.int (k : Nat)), some (.int ((fsts c).length : Nat)), some (.lst true (((List.range k).map (sgA R c) ++ [(c[k], R[k].map fun y => c.getD y 0)]).map eSg)), none, y7, y8], rfl, ?_, ⟨_, rfl⟩⟩
      have hRk : R[k]? = some R[k] := List.getElem?_eq_getElem hkl
      generalize ((List.range k).map (sgA R c)) = S at *
      generalize (R[k].map fun y => c.getD y 0) = row at *
      generalize hrr : R[k] = r at *
      generalize (fsts c).length = m at *
      rw [List.map_append]
      generalize S.map eSg = SM at *
      simp only [auD] at e3 ⊢
      try simp at e3
      simp -implicitDefEqProofs [b_classes_of_3, hkl, hkc, hRk, hrr, e3, hrk, hlen, line, eSg, sizeLine_eq]
  rw [List.length_range] at e2
  have hsgl : (sg R c).length = R.length := sg_len c
  have hsg : (List.range R.length).map (sgA R c) = sg R c := rfl
  rw [hsg] at e2
  obtain ⟨s', e3, y8', rfl⟩ := forV_st (st := fun s => exs G W [5] b_classes_of_4 s) (g := .name 8) (i := 5) eSg (fun _ => rfl) (sg R c) rfl W (by rw [hsgl]; omega)
    (fun k st => ∃ y8, st = [some (auD false z s fs R), some (.tup (fs.map dN)), some (.lst true (c.map dN)), y3', some (.int ((fsts c).length : Nat)), some (.lst true ((sg R c).map eSg)), none, some (numD 2 eSg (fsts ((sg R c).take k))), y8])
    (s := [some (auD false z s fs R), some (.tup (fs.map dN)), some (.lst true (c.map dN)), y3', some (.int ((fsts c).length : Nat)), some (.lst true ((sg R c).map eSg)), none, some (.dic true 2 [] []), y8]) ⟨y8, rfl⟩
    (fun k st hst => by obtain ⟨y8, rfl⟩ := hst; rfl) fun k hk st hst => by
      obtain ⟨y8, rfl⟩ := hst
      have hsn1 : (sg R c)[k] ∈ fsts ((sg R c).take k) → fsts ((sg R c).take (k + 1)) = fsts ((sg R c).take k) := fun h => by
        rw [← List.take_append_getElem hk]
        exact (fstsA_snoc (σ := Nat × List Nat) _ _ _).trans (if_pos h)
      have hsn2 : ¬ (sg R c)[k] ∈ fsts ((sg R c).take k) → fsts ((sg R c).take (k + 1)) = fsts ((sg R c).take k) ++ [(sg R c)[k]] := fun h => by
        rw [← List.take_append_getElem hk]
        exact (fstsA_snoc (σ := Nat × List Nat) _ _ _).trans (if_neg h)
      have hFl : (fsts ((sg R c).take k)).length ≤ 1000 := by
        have := fsts_le ((sg R c).take k)
        rw [List.length_take] at this
        omega
      generalize (sg R c)[k] = x at *
      generalize fsts ((sg R c).take k) = F at *
      generalize (sg R c).map eSg = SG at *
      have hmm := memD_e enSg x F
      have hkx := kOkSg x
      have hsx : still (eSg x) = true := rfl
      have hF2 : F.length < 16777216 := by omega
      by_cases hin : x ∈ F
      · rw [hsn1 hin]
        refine ⟨[some (auD false z s fs R), some (.tup (fs.map dN)), some (.lst true (c.map dN)), y3', some (.int ((fsts c).length : Nat)), some (.lst true SG), none, some (numD 2 eSg F), some (eSg x)], [some (auD false z s fs R), some (.tup (fs.map dN)), some (.lst true (c.map dN)), y3', some (.int ((fsts c).length : Nat)), some (.lst true SG), none, some (numD 2 eSg F), some (eSg x)], rfl, ?_, ⟨_, rfl⟩⟩
        simp only [numD]
        generalize (fsts c).length = m at *
        generalize (List.range F.length).map dN = ds at *
        simp only [auD]
        try simp at hmm
        simp -implicitDefEqProofs [b_classes_of_4, hmm, hin, hkx, hsx, own, isDic]
      · rw [hsn2 hin]
        have hdp := dput_num enSg hin
        refine ⟨[some (auD false z s fs R), some (.tup (fs.map dN)), some (.lst true (c.map dN)), y3', some (.int ((fsts c).length : Nat)), some (.lst true SG), none, some (numD 2 eSg F), some (eSg x)], [some (auD false z s fs R), some (.tup (fs.map dN)), some (.lst true (c.map dN)), y3', some (.int ((fsts c).length : Nat)), some (.lst true SG), none, some (numD 2 eSg (F ++ [x])), some (eSg x)], rfl, ?_, ⟨_, rfl⟩⟩
        generalize hN2 : numD 2 eSg (F ++ [x]) = N2 at *
        simp only [numD]
        generalize (fsts c).length = m at *
        generalize (List.range F.length).map dN = ds at *
        simp only [auD]
        try simp at hmm hdp
        simp -implicitDefEqProofs [b_classes_of_4, hmm, hin, hkx, hsx, own, isDic, line, hF2, hdp, sizeLine_eq]
  rw [List.take_length] at e3
  have e4 := compV_map (W := W) (f := fun s => (evTo G W .none s).noRz) (g := fun s => (ev G W false e_classes_of_5 s).noRz) (own := 8) (i := 5) (m := true)
    (s := [some (auD false z s fs R), some (.tup (fs.map dN)), some (.lst true (c.map dN)), y3', some (.int ((fsts c).length : Nat)), some (.lst true ((sg R c).map eSg)), none, some (numD 2 eSg (fsts (sg R c))), none]) rfl (by decide) eSg (fun _ => rfl) (fun _ => true) (fun x => dN (ixOf (fsts (sg R c)) x)) (sg R c) rfl (by rw [hsgl, sizeLine_eq]; omega) W 0 (Nat.zero_le _) (by rw [hsgl]; omega) fun x hx => by
      have hin : x ∈ fsts (sg R c) := fsts_mem.mpr hx
      have hdv := dval_num0 enSg hin
      have hkx := kOkSg x
      have hsx : still (eSg x) = true := rfl
      generalize ixOf (fsts (sg R c)) x = ix at *
      generalize fsts (sg R c) = F at *
      generalize (sg R c).map eSg = SG at *
      generalize (fsts c).length = m at *
      constructor
      · simp -implicitDefEqProofs []
      · intro _
        simp only [numD]
        generalize (List.range F.length).map dN = ds at *
        simp only [auD]
        try simp at hdv
        simp -implicitDefEqProofs [e_classes_of_5, hdv, hkx, hsx, own, isDic, getK]
  rw [filter_tt, List.drop_zero] at e4
  have hcan : (canon (sg R c)).map dN = (sg R c).map fun x => dN (ixOf (fsts (sg R c)) x) := by rw [canon, List.map_map]; rfl
  have hn2 : R.length ≤ 16777216 := by omega
  have hn3 : R.length < 1000000 := by omega
  rw [hcan]
  refine ⟨y3', some (.lst true ((sg R c).map eSg)), some (numD 2 eSg (fsts (sg R c))), y8', ?_⟩
  generalize ((sg R c).map fun x => dN (ixOf (fsts (sg R c)) x)) = CN at *
  have hst : stills ((sg R c).map eSg) = true := stills_mapT eSg (fun _ => rfl) _
  generalize (sg R c).map eSg = SG at *
  generalize numD 2 eSg (fsts (sg R c)) = ND at *
  generalize (fsts c).length = m at *
  simp only [auD] at e2 e3 e4 ⊢
  try simp at e1 e2 e3 e4
  simp -implicitDefEqProofs [b_classes_of_7, e1, e2, e3, e4, hn2, hn3, hst]
end
def ClassesOk (g : Callee) : Prop := ∀ (z s : Nat) (fs : List Nat) (R : List (List Nat)), Aut z s fs R → R.length ≤ 1000 → z ≤ 1000 → g [auD false z s fs R] = .ok (.lst true ((cls R fs).map dN)) []
theorem classes_ok {G : Env0A} {W : Nat} (hW : 2000 < W) : ClassesOk (runF G W f_classes_of) := by
  intro z s fs R hR hn hz
  have e1 := compL_map (f := fun s => (evTo G W .none s).noRz) (g := fun s => (ev G W false e_classes_of_1 s).noRz) (own := 3)
    (s := [some (auD false z s fs R), some (.tup (fs.map dN)), none, none, none, none, none, none, none]) rfl dN (fun _ => true) (fun k => dN (if k ∈ fs then 1 else 0)) (List.range R.length) fun k _ => by
      constructor
      · simp -implicitDefEqProofs []
      · intro _
        simp only [auD]
        by_cases h : k ∈ fs
        · simp -implicitDefEqProofs [e_classes_of_1, h]
        · simp -implicitDefEqProofs [e_classes_of_1, h]
  rw [filter_tt] at e1
  have hc0 : (List.range R.length).map (fun k => dN (if k ∈ fs then 1 else 0)) = (clsJ R fs 0).map dN := by
    simp only [clsJ, c0, List.map_map]; rfl
  rw [hc0] at e1
  have hn1 : 0 < R.length := Nat.lt_of_le_of_lt (Nat.zero_le _) hR.st
  have loop := whileL_inv (c := fun s => evT G W t_classes_of_6 s) (st := fun s => exs G W [] b_classes_of_7 s)
    (I := fun m st => ∃ j cc y3 y5 y7 y8, j + m = R.length + 1 ∧ (j = 0 → cc = 0) ∧ (∀ i, j = i + 1 → cc = (fsts (clsJ R fs i)).length ∧ j ≤ cc) ∧ st = [some (auD false z s fs R), some (.tup (fs.map dN)), some (.lst true ((clsJ R fs j).map dN)), y3, some (.int (cc : Nat)), y5, none, y7, y8])
    (Q := fun st => ∃ cc y3 y5 y7 y8, st = [some (auD false z s fs R), some (.tup (fs.map dN)), some (.lst true ((cls R fs).map dN)), y3, some (.int (cc : Nat)), y5, none, y7, y8])
    (fun m st hI => by
      obtain ⟨j, cc, y3, y5, y7, y8, hjm, hj0, hj1, rfl⟩ := hI
      have hlen : (clsJ R fs j).length < 4000 := by rw [clsJ_len]; omega
      have e2 := lset_cnt (c := clsJ R fs j) (m := true) hlen
      have hle := cnt_le (R := R) (fs := fs) j
      by_cases heq : cc = (fsts (clsJ R fs j)).length
      · obtain ⟨i, rfl⟩ : ∃ i, j = i + 1 := by
          cases j with
          | zero =>
            have := cnt0 hR
            have := hj0 rfl
            omega
          | succ i => exact ⟨i, rfl⟩
        obtain ⟨h1, h2⟩ := hj1 i rfl
        have h3 : (fsts (clsJ R fs (i + 1))).length = (fsts (clsJ R fs i)).length := by omega
        have h4 : clsJ R fs (i + 1) = cls R fs := cls_at hR (by omega) h3
        rw [h4] at e2 heq ⊢
        refine .inl ⟨[some (auD false z s fs R), some (.tup (fs.map dN)), some (.lst true ((cls R fs).map dN)), y3, some (.int (cc : Nat)), y5, none, y7, y8], ?_, cc, y3, y5, y7, y8, rfl⟩
        rw [← heq] at e2
        simp only [auD]
        try simp at e2
        simp -implicitDefEqProofs [t_classes_of_6, e2]
      · obtain ⟨y3', y5', y7', y8', e3⟩ := cls_body (G := G) (W := W) (by omega) hR hn hz (c := clsJ R fs j) (clsJ_len j) y3 y5 y7 y8 (cc : Nat)
        have hgrow : j + 1 ≤ (fsts (clsJ R fs j)).length := by
          cases j with
          | zero => exact cnt0 hR
          | succ i =>
            obtain ⟨h1, h2⟩ := hj1 i rfl
            have := cnt_up (R := R) (fs := fs) i
            omega
        refine .inr ⟨[some (auD false z s fs R), some (.tup (fs.map dN)), some (.lst true ((clsJ R fs j).map dN)), y3, some (.int (cc : Nat)), y5, none, y7, y8], _, m - 1, ?_, .inl e3, ⟨j + 1, (fsts (clsJ R fs j)).length, y3', y5', y7', y8', by omega, by omega, fun i hi => by
          have : i = j := by omega
          subst this
          exact ⟨rfl, hgrow⟩, rfl⟩, by omega⟩
        generalize (fsts (clsJ R fs j)).length = q at *
        have hne : ¬ ((cc : Nat) : Int) = (q : Nat) := by omega
        simp only [auD]
        try simp at e2
        simp -implicitDefEqProofs [t_classes_of_6, e2, hne, heq])
  obtain ⟨s', e4, cc, y3, y5, y7, y8, rfl⟩ := loop W (R.length + 1) (s := [some (auD false z s fs R), some (.tup (fs.map dN)), some (.lst true ((clsJ R fs 0).map dN)), none, some (.int (0 : Nat)), none, none, none, none]) ⟨0, 0, none, none, none, none, by omega, fun _ => rfl, fun i hi => by omega, rfl⟩ (by omega)
  have hn2 : R.length ≤ 16777216 := by omega
  have hn3 : R.length < 1000000 := by omega
  generalize (clsJ R fs 0).map dN = C0 at *
  generalize (cls R fs).map dN = CC at *
  simp only [auD] at e1 e4 ⊢
  try simp at e1 e4
  simp -implicitDefEqProofs [runF, f_classes_of_eq, g_classes_of, e1, e4, hn2, hn3]
/-! Abm134: least -/
theorem xpl_done {α : Type} [DecidableEq α] {st : α → Nat → α} {z N : Nat} {s0 : α} (hN : ∀ k, (xpl st z s0 k).length ≤ N) : ExDone st z s0 (xpl st z s0 N) ∧ (xpl st z s0 N).length ≤ N := by
  obtain ⟨Fd, h, hl⟩ := xpl_done0 hN
  have e := (h.at_ N).2 hl
  rw [e]; exact ⟨h, hl⟩
def smp (R : List (List Nat)) (fs : List Nat) (c : Nat) : Nat := ixOf (cls R fs) c
def stL (R : List (List Nat)) (fs : List Nat) (c a : Nat) : Nat := (cls R fs).getD (dlt R (smp R fs c) a) 0
def finL (R : List (List Nat)) (fs : List Nat) (c : Nat) : Bool := decide (smp R fs c ∈ fs)
def s0L (R : List (List Nat)) (fs : List Nat) (s : Nat) : Nat := (cls R fs).getD s 0
def FdL (R : List (List Nat)) (fs : List Nat) (z s : Nat) : List Nat := xpl (stL R fs) z (s0L R fs s) R.length
def lstR (R : List (List Nat)) (fs : List Nat) (z s : Nat) : List (List Nat) := rowsE (stL R fs) z (FdL R fs z s)
def lstF (R : List (List Nat)) (fs : List Nat) (z s : Nat) : List Nat := finsE (finL R fs) (FdL R fs z s)
section
variable {z s : Nat} {fs : List Nat} {R : List (List Nat)}
theorem cls_get {k : Nat} (hk : k < R.length) : (cls R fs).getD k 0 ∈ cls R fs := by
  have : k < (cls R fs).length := by rw [cls_len]; exact hk
  have e : (cls R fs).getD k 0 = (cls R fs)[k] := by simp [this]
  rw [e]; exact List.getElem_mem this
theorem smp_lt {c : Nat} (h : c ∈ cls R fs) : smp R fs c < R.length := by
  have := List.idxOf_lt_length_iff.mpr h
  rw [cls_len] at this
  exact this
theorem stL_mem (hR : Aut z s fs R) {c a : Nat} (hc : c ∈ cls R fs) (ha : a < z) : stL R fs c a ∈ cls R fs := cls_get (dlt_lt hR (smp_lt hc) ha)
theorem FdL_done (hR : Aut z s fs R) : ExDone (stL R fs) z (s0L R fs s) (FdL R fs z s) ∧ (FdL R fs z s).length ≤ R.length ∧ ∀ c, c ∈ FdL R fs z s → c ∈ cls R fs := by
  have hsub : ∀ k c, c ∈ xpl (stL R fs) z (s0L R fs s) k → c ∈ cls R fs := xpl_sub (U := fun c => c ∈ cls R fs) (cls_get hR.st) fun x a hx ha => stL_mem hR hx ha
  have hN : ∀ k, (xpl (stL R fs) z (s0L R fs s) k).length ≤ R.length := fun k => by
    have := nodup_le (xpl_nodup k) (hsub k)
    rwa [cls_len] at this
  obtain ⟨h1, h2⟩ := xpl_done hN
  exact ⟨h1, h2, hsub R.length⟩
end
theorem enN : EnK 0 dN := ⟨fun a b => En.eq (f := dN) a b, fun _ => rfl, fun _ => rfl, fun _ => rfl, fun _ => rfl⟩
/-- the samples -/
def smpD (m : Bool) (C F : List Nat) : D := .dic m 0 (F.map dN) (F.map fun c => dN (ixOf C c))
theorem dval_smp {C : List Nat} (c : Nat) : ∀ F : List Nat, c ∈ F → dval (F.map dN) (F.map fun c => dN (ixOf C c)) (.int (c : Nat)) = some (.int (ixOf C c : Nat))
  | [], h => by simp at h
  | y :: F, h => by
    have e := enN.eqk y c
    simp only [dN_ap] at e
    simp only [List.map_cons, dval, dN_ap, e]
    by_cases hy : y = c
    · simp [hy]
    · rw [if_neg (by simpa using hy)]
      exact dval_smp c F ((List.mem_cons.mp h).resolve_left fun q => hy q.symm)
theorem dput_smp {C F : List Nat} {c : Nat} (h : ¬ c ∈ F) : dput 0 (F.map dN) (F.map fun c => dN (ixOf C c)) (.int (c : Nat)) (.int (ixOf C c : Nat)) = smpD true C (F ++ [c]) := by
  have e := memD_e enN c F
  simp only [dN_ap] at e
  rw [dput, e, if_neg (by simpa using h), smpD]
  simp
def LStepOk (g : Callee) : Prop := ∀ (z s : Nat) (fs : List Nat) (R : List (List Nat)) (F : List Nat) (c a : Nat), Aut z s fs R → (∀ x, x ∈ cls R fs → x ∈ F) → c ∈ cls R fs → a < z →
  g [.int (c : Nat), .int (a : Nat), auD false z s fs R, .lst false ((cls R fs).map dN), smpD false (cls R fs) F] = .ok (.int (stL R fs c a : Nat)) []
theorem lstep_ok {G : Env0A} {W : Nat} : LStepOk (runF G W f_least_step) := by
  intro z s fs R F c a hR hF hc ha
  have hq := smp_lt hc
  have hdv := dval_smp (C := cls R fs) c F (hF c hc)
  have hd := dlt_lt hR hq ha
  have hRq : R.getD (smp R fs c) [] = R[smp R fs c] := getD_eq hq
  have hrl : a < R[smp R fs c].length := by rw [(hR.row _ (List.getElem_mem hq)).1]; exact ha
  have hRa : dlt R (smp R fs c) a = R[smp R fs c][a] := by rw [dlt, hRq]; exact getD_eq hrl
  have hcl : dlt R (smp R fs c) a < (cls R fs).length := by rw [cls_len]; exact hd
  have hst : stL R fs c a = (cls R fs)[dlt R (smp R fs c) a] := getD_eq hcl
  have hstl : ∀ l : List Nat, stills (l.map fun c => dN (ixOf (cls R fs) c)) = true := fun l => stills_mapT _ (fun _ => rfl) l
  rw [hst]
  have hix : ixOf (cls R fs) c = smp R fs c := rfl
  rw [hix] at hdv
  generalize smp R fs c = q at *
  generalize hrr : R[q] = r at *
  have hRq2 : R[q]? = some r := by rw [List.getElem?_eq_getElem hq, hrr]
  simp only [hRa] at hcl ⊢
  have hcl2 : r[a] < R.length := by rw [← cls_len (R := R) (fs := fs)]; exact hcl
  simp only [auD, smpD]
  have hs2 := hstl F
  generalize (F.map fun c => dN (ixOf (cls R fs) c)) = fv at *
  try simp at hdv
  simp -implicitDefEqProofs [runF, f_least_step_eq, g_least_step, hq, hRq2, hrr, hrl, hdv, hcl, hcl2, own, getK, kOk, isDic, hs2, still]
def LFinOk (g : Callee) : Prop := ∀ (z s : Nat) (fs : List Nat) (R : List (List Nat)) (F : List Nat) (c : Nat), (∀ x, x ∈ cls R fs → x ∈ F) → c ∈ cls R fs →
  g [.int (c : Nat), auD false z s fs R, smpD false (cls R fs) F] = .ok (.bl (finL R fs c)) []
theorem lfin_ok {G : Env0A} {W : Nat} : LFinOk (runF G W f_least_is_final) := by
  intro z s fs R F c hF hc
  have hdv := dval_smp (C := cls R fs) c F (hF c hc)
  have hs2 : stills (F.map fun c => dN (ixOf (cls R fs) c)) = true := stills_mapT _ (fun _ => rfl) F
  have hix : ixOf (cls R fs) c = smp R fs c := rfl
  rw [hix] at hdv
  simp only [finL]
  generalize smp R fs c = q at *
  simp only [auD, smpD]
  generalize (F.map fun c => dN (ixOf (cls R fs) c)) = fv at *
  try simp at hdv
  simp -implicitDefEqProofs [runF, f_least_is_final_eq, g_least_is_final, hdv, own, getK, kOk, isDic, hs2, still]
theorem idx_first {C : List Nat} {k : Nat} (hk : k < C.length) (h : ¬ C[k] ∈ C.take k) : ixOf C C[k] = k := by
  have key : ∀ x, x = C[k] → C.idxOf x = k := fun x hx => by
    rw [← hx] at h
    have hd : C.drop k = x :: C.drop (k + 1) := by rw [hx]; exact List.drop_eq_getElem_cons hk
    rw [← List.take_append_drop k C, List.idxOf_append, if_neg h, hd, List.idxOf_cons_self, List.length_take]
    omega
  exact key _ rfl
theorem noFns_mapT {α : Type} (f : α → D) (h : ∀ x, noFn (f x) = true) : ∀ l : List α, noFns (l.map f) = true
  | [] => rfl
  | x :: l => by simp only [List.map_cons, noFns, h, noFns_mapT f h l, Bool.and_self]
theorem noFn_auD (m : Bool) (z s : Nat) (fs : List Nat) (R : List (List Nat)) : noFn (auD m z s fs R) = true := by
  have h1 : noFns (fs.map dN) = true := noFns_mapT dN (fun _ => rfl) fs
  have h2 : noFns (R.map tN) = true := noFns_mapT tN (fun l => by simp only [tN, noFn]; exact noFns_mapT dN (fun _ => rfl) l) R
  simp only [auD, noFn, noFns, h1, h2, Bool.and_self]
theorem noClos_mapT {α : Type} (f : α → D) (h : ∀ x, noClo (f x) = true) : ∀ l : List α, noClos (l.map f) = true
  | [] => rfl
  | x :: l => by simp only [List.map_cons, noClos, h, noClos_mapT f h l, Bool.and_self]
theorem noClo_auD (m : Bool) (z s : Nat) (fs : List Nat) (R : List (List Nat)) : noClo (auD m z s fs R) = true := by
  have h1 : noClos (fs.map dN) = true := noClos_mapT dN (fun _ => rfl) fs
  have h2 : noClos (R.map tN) = true := noClos_mapT tN (fun l => by simp only [tN, noClo]; exact noClos_mapT dN (fun _ => rfl) l) R
  simp only [auD, noClo, noClos, h1, h2, Bool.and_self]
/-- least -/
def LeastAutOk (g : Callee) : Prop := ∀ (z s : Nat) (fs : List Nat) (R : List (List Nat)), Aut z s fs R → R.length ≤ 1000 → z ≤ 1000 → g [auD false z s fs R, .tbs] = .ok (auD true z 0 (lstF R fs z s) (lstR R fs z s)) [.tbs]
theorem runN_ok {G : Env0A} {W : Nat} {f : MF} {ds : List D} {d : D} {ms : List D} (h : runF G W f ds = .ok d ms) (h1 : noFns ds = true) (h2 : noFn d = true) (h3 : noFns ms = true) : runN G W f ds = .ok d ms := by
  unfold runN
  rw [if_pos h1, h]
  simp only [h2, h3, Bool.and_self, if_true]
theorem leastAut_ok {G GE : Env0A} {W : Nat} (hC : Has G 280 ClassesOk) (hE : Has G 283 (ExplOk GE 0)) (h1 : Has GE 281 LStepOk) (h2 : Has GE 282 LFinOk) : LeastAutOk (runN G W f_least) := by
  intro z s fs R hR hn hz
  obtain ⟨gC, hgC, hC⟩ := hC
  obtain ⟨gE, hgE, hE⟩ := hE
  obtain ⟨g1, hg1, h1⟩ := h1
  obtain ⟨g2, hg2, h2⟩ := h2
  obtain ⟨hD, hFl, hFc⟩ := FdL_done hR
  have e1 := hC z s fs R hR hn hz
  have hclen : (cls R fs).length = R.length := cls_len
  obtain ⟨s', e2, y4, rfl⟩ := for_st (st := fun s => exs G W [1] b_least_1 s) (g := .name 4) dN (List.range R.length)
    (fun k st => ∃ y4, st = [some (auD false z s fs R), some .tbs, some (.lst true ((cls R fs).map dN)), some (smpD true (cls R fs) (fsts ((cls R fs).take k))), y4, none, none])
    (s := [some (auD false z s fs R), some .tbs, some (.lst true ((cls R fs).map dN)), some (.dic true 0 [] []), none, none, none]) ⟨none, rfl⟩ fun k hk st hst => by
      obtain ⟨y4, rfl⟩ := hst
      have hgk : (List.range R.length)[k]'hk = k := by simp
      have hkl : k < R.length := by simpa using hk
      have hkc : k < (cls R fs).length := by omega
      rw [hgk]
      have hsn1 : (cls R fs)[k] ∈ fsts ((cls R fs).take k) → fsts ((cls R fs).take (k + 1)) = fsts ((cls R fs).take k) := fun h => by
        rw [← List.take_append_getElem hkc]
        exact (fstsA_snoc (σ := Nat) _ _ _).trans (if_pos h)
      have hsn2 : ¬ (cls R fs)[k] ∈ fsts ((cls R fs).take k) → fsts ((cls R fs).take (k + 1)) = fsts ((cls R fs).take k) ++ [(cls R fs)[k]] := fun h => by
        rw [← List.take_append_getElem hkc]
        exact (fstsA_snoc (σ := Nat) _ _ _).trans (if_neg h)
      have hFl : (fsts ((cls R fs).take k)).length ≤ 1000 := by
        have := fsts_le ((cls R fs).take k)
        rw [List.length_take] at this
        omega
      have hix : ¬ (cls R fs)[k] ∈ fsts ((cls R fs).take k) → ixOf (cls R fs) (cls R fs)[k] = k := fun h => by
        rw [fsts_mem] at h
        exact idx_first hkc h
      generalize hcc : (cls R fs)[k] = c at *
      generalize fsts ((cls R fs).take k) = F at *
      have hmm := memD_e enN c F
      have hF2 : F.length < 16777216 := by omega
      by_cases hin : c ∈ F
      · rw [hsn1 hin]
        refine ⟨[some (auD false z s fs R), some .tbs, some (.lst true ((cls R fs).map dN)), some (smpD true (cls R fs) F), some (.int (k : Nat)), none, none], [some (auD false z s fs R), some .tbs, some (.lst true ((cls R fs).map dN)), some (smpD true (cls R fs) F), some (.int (k : Nat)), none, none], rfl, ?_, ⟨_, rfl⟩⟩
        simp only [auD, smpD]
        generalize (F.map fun c => dN (ixOf (cls R fs) c)) = fv at *
        generalize cls R fs = C at *
        try simp at hmm
        simp -implicitDefEqProofs [b_least_1, hkc, hcc, hmm, hin, own, isDic, kOk]
      · rw [hsn2 hin]
        have hdp := dput_smp (C := cls R fs) hin
        rw [hix hin] at hdp
        refine ⟨[some (auD false z s fs R), some .tbs, some (.lst true ((cls R fs).map dN)), some (smpD true (cls R fs) F), some (.int (k : Nat)), none, none], [some (auD false z s fs R), some .tbs, some (.lst true ((cls R fs).map dN)), some (smpD true (cls R fs) (F ++ [c])), some (.int (k : Nat)), none, none], rfl, ?_, ⟨_, rfl⟩⟩
        generalize hN2 : smpD true (cls R fs) (F ++ [c]) = N2 at *
        simp only [auD, smpD]
        generalize (F.map fun c => dN (ixOf (cls R fs) c)) = fv at *
        generalize cls R fs = C at *
        try simp at hmm hdp
        simp -implicitDefEqProofs [b_least_1, hkc, hcc, hmm, hin, own, isDic, kOk, line, hF2, hdp, still, sizeLine_eq]
  rw [List.length_range, show (cls R fs).take R.length = cls R fs by rw [← hclen, List.take_length]] at e2
  have hall : ∀ x, x ∈ cls R fs → x ∈ fsts (cls R fs) := fun x hx => fsts_mem.mpr hx
  have e3 := hE Nat dN 281 282 z [auD false z s fs R, .lst false ((cls R fs).map dN), smpD false (cls R fs) (fsts (cls R fs))] [auD false z s fs R, smpD false (cls R fs) (fsts (cls R fs))] g1 g2 (stL R fs) (finL R fs) (s0L R fs s) (FdL R fs z s) enN hg1 hg2 hD
    (fun x hx a ha => h1 z s fs R _ x a hR hall (hFc x hx) ha) (fun x hx => h2 z s fs R _ x hall (hFc x hx)) (by omega) hR.z1 hz
  have hn1 := noFn_auD true z 0 (lstF R fs z s) (lstR R fs z s)
  have hn2 := noClo_auD true z 0 (lstF R fs z s) (lstR R fs z s)
  refine runN_ok ?_ (by simp only [noFns, noFn_auD]; rfl) hn1 rfl
  have hn3 : R.length ≤ 16777216 := by omega
  have hn4 : R.length < 1000000 := by omega
  have hsc : s < (cls R fs).length := by rw [hclen]; exact hR.st
  have hs0 : s0L R fs s = (cls R fs)[s] := getD_eq hsc
  have hs1 : stills (R.map tN) = true := stills_mapT tN (fun _ => rfl) R
  have hf1 : frzs (R.map tN) = R.map tN := frzs_mapE tN tN (fun _ => rfl) R
  have hs2 : stills ((fsts (cls R fs)).map fun c => dN (ixOf (cls R fs) c)) = true := stills_mapT _ (fun _ => rfl) _
  have hf2 : frzs ((fsts (cls R fs)).map fun c => dN (ixOf (cls R fs) c)) = (fsts (cls R fs)).map fun c => dN (ixOf (cls R fs) c) := frzs_mapE _ _ (fun _ => rfl) _
  have hn5 : noFns (R.map tN) = true := noFns_mapT tN (fun l => by simp only [tN, noFn]; exact noFns_mapT dN (fun _ => rfl) l) R
  have hn6 : noFns (fs.map dN) = true := noFns_mapT dN (fun _ => rfl) fs
  have hn7 : noFns ((cls R fs).map dN) = true := noFns_mapT dN (fun _ => rfl) _
  have hn8 : noFns ((fsts (cls R fs)).map fun c => dN (ixOf (cls R fs) c)) = true := noFns_mapT _ (fun _ => rfl) _
  have hnT : ∀ l : List (List Nat), noFns (l.map tN) = true := fun l => noFns_mapT tN (fun l => by simp only [tN, noFn]; exact noFns_mapT dN (fun _ => rfl) l) l
  have hnN : ∀ l : List Nat, noFns (l.map dN) = true := fun l => noFns_mapT dN (fun _ => rfl) l
  rw [hs0] at e3
  have hL1 : lstF R fs z s = finsE (finL R fs) (FdL R fs z s) := rfl
  have hL2 : lstR R fs z s = rowsE (stL R fs) z (FdL R fs z s) := rfl
  rw [← hL1, ← hL2] at e3
  generalize lstF R fs z s = lf at *
  generalize lstR R fs z s = lr at *
  simp only [auD, smpD] at e1 e2 e3 hn1 hn2 ⊢
  generalize ((fsts (cls R fs)).map fun c => dN (ixOf (cls R fs) c)) = fv at *
  generalize (fsts (cls R fs)).map dN = fk at *
  generalize cls R fs = C at *
  generalize R.map tN = RT at *
  generalize fs.map dN = FT at *
  have hn9 : C.length < 1000000 := by omega
  have hCs : C[s]? = some C[s] := List.getElem?_eq_getElem hsc
  try simp at e1 e2 e3 hn1 hn2
  simp -implicitDefEqProofs [runF, f_least_eq, g_least, hgC, e1, hclen, hn3, hn4, e2, frzL, tbsAt, tbsIn, isTbs, isFn, hs1, hf1, hs2, hf2, hgE, e3, hsc, hCs, calledH, capsC, rds, noFns, noFn, hn5, hn6, hn7, hn8, hn1, hn2, still, own, hnT, hnN]
/-! Abm135: the law's own least automaton -/
instance : En eSg where
  frz _ := rfl
  still _ := rfl
  noL x := by simp [eSg, noL, noLs]
  plain0 x := by simp [eSg, plain0, plains0, plains0_map]
  depth x := by
    have := En.depth (f := tN) x.2
    simp only [tN_ap] at this
    simp only [eSg, toPD, toPDs, PySem.PyData.depth, PySem.PyData.depthAll] at this ⊢
    have h2 : ∀ l : List Nat, PySem.PyData.depthAll (toPDs (l.map dN)) ≤ 1 := by
      intro l
      induction l with
      | nil => simp [PySem.PyData.depthAll]
      | cons a l ih => simp only [List.map_cons, toPDs, PySem.PyData.depthAll, dN_ap, toPD, PySem.PyData.depth]; omega
    have := h2 x.2
    omega
  eq a b := heqSg a b
theorem fidx_map {α : Type} [DecidableEq α] {f : α → D} [En f] (a : α) : ∀ l : List α, a ∈ l → (l.map f).findIdx? (fun y => eqD y (f a)) = some (ixOf l a)
  | [], h => by simp at h
  | x :: l, h => by
    have e : eqD (f x) (f a) = decide (x = a) := En.eq x a
    rw [List.map_cons, List.findIdx?_cons, e]
    by_cases hx : x = a
    · simp [hx, ixOf]
    · have ha : a ∈ l := (List.mem_cons.mp h).resolve_left fun q => hx q.symm
      rw [if_neg (by simpa using hx), fidx_map a l ha]
      simp only [Option.map_some, ixOf, List.idxOf_cons, show (x == a) = false by simpa using hx, cond_false]
theorem idx_lst {α : Type} [DecidableEq α] {f : α → D} [En f] {a : α} {l : List α} {m : Bool} (h : a ∈ l) : bi2 .idx (.lst m (l.map f)) (f a) = some (.int (ixOf l a : Nat)) := by
  simp only [bi2, plain_f, plain_lstm, Bool.and_self, if_true, fidx_map a l h]
  rfl
theorem idx_dN {a : Nat} {l : List Nat} {m : Bool} (h : a ∈ l) : bi2 .idx (.lst m (l.map dN)) (.int (a : Nat)) = some (.int (ixOf l a : Nat)) := idx_lst (f := dN) h
def sqN (t : Bool) (l : List Nat) : D := if t then .tup (l.map dN) else .lst false (l.map dN)
theorem sqN_t (l : List Nat) : sqN true l = .tup (l.map dN) := rfl
theorem sqN_f (l : List Nat) : sqN false l = .lst false (l.map dN) := rfl
def sqR (t : Bool) (R : List (List Nat)) : D := if t then .tup (R.map (sqN t)) else .lst false (R.map (sqN t))
def autS (t : Bool) (s : Nat) (fs : List Nat) (R : List (List Nat)) : D := .tup [.int (s : Nat), sqN t fs, sqR t R]
section
variable {z s : Nat} {fs : List Nat} {R : List (List Nat)}
theorem xpl_next {α : Type} [DecidableEq α] {st : α → Nat → α} {z k : Nat} {s0 x : α} (h : (xpl st z s0 k)[k]? = some x) : xpl st z s0 (k + 1) = adds (st x) z (xpl st z s0 k) := by
  simp only [xpl, h]
/-- one state's sign -/
theorem sm_row {G : Env0A} {W : Nat} (hR : Aut z s fs R) {c : List Nat} (hc : c.length = R.length) {k : Nat} (hk : k < R.length) (x0 x1 x2 x3 x5 x6 x7 x9 x10 x11 x12 x13 x14 x15 x16 : Option D) :
    compL (fun s => (evTo G W .none s).noRz) (fun s => (ev G W false e_l_smallest_2 s).noRz) 8 ((R[k]).map dN) [x0, x1, x2, x3, some (.lst true (c.map dN)), x5, x6, x7, none, x9, x10, x11, x12, x13, x14, x15, x16] =
      .ok ((R[k].map fun y => c.getD y 0).map dN) [x0, x1, x2, x3, some (.lst true (c.map dN)), x5, x6, x7, none, x9, x10, x11, x12, x13, x14, x15, x16] := by
  have h := compL_map (f := fun s => (evTo G W .none s).noRz) (g := fun s => (ev G W false e_l_smallest_2 s).noRz) (own := 8)
    (s := [x0, x1, x2, x3, some (.lst true (c.map dN)), x5, x6, x7, none, x9, x10, x11, x12, x13, x14, x15, x16]) rfl dN (fun _ => true) (fun y => dN (c.getD y 0)) R[k] fun y hy => by
      have hyl := (hR.row _ (List.getElem_mem hk)).2 y hy
      have hyc : y < c.length := by omega
      have hg : c.getD y 0 = c[y] := by simp [hyc]
      rw [hg]
      constructor
      · simp -implicitDefEqProofs []
      · intro _
        simp -implicitDefEqProofs [e_l_smallest_2, hyc]
  rw [filter_tt] at h
  rw [h, List.map_map]; rfl
/-- all signs -/
theorem sm_signs {G : Env0A} {W : Nat} (hR : Aut z s fs R) (hz : z ≤ 1000) {c : List Nat} (hc : c.length = R.length) (t : Bool) (x0 x1 x2 x6 x7 x9 x10 x11 x12 x13 x14 x15 x16 : Option D) :
    compL (fun s => (evTo G W .none s).noRz) (fun s => (ev G W false e_l_smallest_3 s).noRz) 5 ((List.range R.length).map dN) [x0, x1, x2, some (sqR t R), some (.lst true (c.map dN)), none, x6, x7, none, x9, x10, x11, x12, x13, x14, x15, x16] =
      .ok ((sg R c).map eSg) [x0, x1, x2, some (sqR t R), some (.lst true (c.map dN)), none, x6, x7, none, x9, x10, x11, x12, x13, x14, x15, x16] := by
  have h := compL_map (f := fun s => (evTo G W .none s).noRz) (g := fun s => (ev G W false e_l_smallest_3 s).noRz) (own := 5)
    (s := [x0, x1, x2, some (sqR t R), some (.lst true (c.map dN)), none, x6, x7, none, x9, x10, x11, x12, x13, x14, x15, x16]) rfl dN (fun _ => true) (fun k => eSg (sgA R c k)) (List.range R.length) fun k hk => by
      have hkl := List.mem_range.mp hk
      have hkc : k < c.length := by omega
      have e3 := sm_row (G := G) (W := W) hR hc hkl x0 x1 x2 (some (sqR t R)) (some (.int (k : Nat))) x6 x7 x9 x10 x11 x12 x13 x14 x15 x16
      have hg1 : sgA R c k = (c[k], R[k].map fun y => c.getD y 0) := by
        unfold sgA
        simp [hkc, hkl]
      rw [hg1]
      have hRk : R[k]? = some R[k] := List.getElem?_eq_getElem hkl
      have hrk : ¬ 16777216 < R[k].length := by rw [(hR.row _ (List.getElem_mem hkl)).1]; omega
      generalize (R[k].map fun y => c.getD y 0) = row at *
      generalize hrr : R[k] = r at *
      constructor
      · simp -implicitDefEqProofs []
      · intro _
        cases t <;> (simp only [sqR, sqN, if_true, Bool.false_eq_true, if_false] at e3 ⊢; (try simp at e3); simp -implicitDefEqProofs [e_l_smallest_3, hkl, hkc, hRk, hrr, e3, hrk, eSg, sqN_t, sqN_f])
  rw [filter_tt] at h
  rw [h]
  have : (List.range R.length).map (fun k => eSg (sgA R c k)) = (sg R c).map eSg := by rw [sg, List.map_map]; rfl
  rw [this]
/-- one turn -/
theorem sm_turn {G : Env0A} {W : Nat} (hW : 1000 < W) (hR : Aut z s fs R) (hn : R.length ≤ 1000) (hz : z ≤ 1000) {c : List Nat} (hc : c.length = R.length) (t : Bool) (x0 x1 x2 x6 y7 y9 y10 : Option D) :
    ∃ y7' y9' y10', exs G W [] b_l_smallest_6 [x0, x1, x2, some (sqR t R), some (.lst true (c.map dN)), none, x6, y7, none, y9, y10, none, none, none, none, none, none] =
      .nx [x0, x1, x2, some (sqR t R), some (.lst true ((canon (sg R c)).map dN)), none, x6, y7', none, y9', y10', none, none, none, none, none, none] := by
  have e1 := sm_signs (G := G) (W := W) hR hz hc t x0 x1 x2 x6 y7 y9 y10 none none none none none none
  have hsgl : (sg R c).length = R.length := sg_len c
  obtain ⟨s', e3, y10', rfl⟩ := forV_st (st := fun s => exs G W [7] b_l_smallest_4 s) (g := .name 10) (i := 7) eSg (fun _ => rfl) (sg R c) rfl W (by rw [hsgl]; omega)
    (fun k st => ∃ y10, st = [x0, x1, x2, some (sqR t R), some (.lst true (c.map dN)), none, x6, some (.lst true ((sg R c).map eSg)), none, some (.lst true ((fsts ((sg R c).take k)).map eSg)), y10, none, none, none, none, none, none])
    (s := [x0, x1, x2, some (sqR t R), some (.lst true (c.map dN)), none, x6, some (.lst true ((sg R c).map eSg)), none, some (.lst true []), y10, none, none, none, none, none, none]) ⟨y10, rfl⟩
    (fun k st hst => by obtain ⟨y10, rfl⟩ := hst; rfl) fun k hk st hst => by
      obtain ⟨y10, rfl⟩ := hst
      have hsn1 : (sg R c)[k] ∈ fsts ((sg R c).take k) → fsts ((sg R c).take (k + 1)) = fsts ((sg R c).take k) := fun h => by
        rw [← List.take_append_getElem hk]
        exact (fstsA_snoc (σ := Nat × List Nat) _ _ _).trans (if_pos h)
      have hsn2 : ¬ (sg R c)[k] ∈ fsts ((sg R c).take k) → fsts ((sg R c).take (k + 1)) = fsts ((sg R c).take k) ++ [(sg R c)[k]] := fun h => by
        rw [← List.take_append_getElem hk]
        exact (fstsA_snoc (σ := Nat × List Nat) _ _ _).trans (if_neg h)
      have hFl : (fsts ((sg R c).take k)).length ≤ 1000 := by
        have := fsts_le ((sg R c).take k)
        rw [List.length_take] at this
        omega
      generalize (sg R c)[k] = x at *
      generalize fsts ((sg R c).take k) = F at *
      generalize (sg R c).map eSg = SG at *
      have hmm := memD_map (f := eSg) x F
      have hsx : still (eSg x) = true := rfl
      have hF2 : F.length < 16777216 := by omega
      have hpx : plain (eSg x) = true := plain_f (f := eSg) x
      have hpF : plains (F.map eSg) = true := plains_map (f := eSg) F
      by_cases hin : x ∈ F
      · rw [hsn1 hin]
        refine ⟨[x0, x1, x2, some (sqR t R), some (.lst true (c.map dN)), none, x6, some (.lst true SG), none, some (.lst true (F.map eSg)), some (eSg x), none, none, none, none, none, none], [x0, x1, x2, some (sqR t R), some (.lst true (c.map dN)), none, x6, some (.lst true SG), none, some (.lst true (F.map eSg)), some (eSg x), none, none, none, none, none, none], rfl, ?_, ⟨_, rfl⟩⟩
        generalize F.map eSg = FM at *
        generalize sqR t R = RD at *
        try simp at hmm
        simp -implicitDefEqProofs [b_l_smallest_4, hmm, hin, hsx, hpx, hpF, own]
      · rw [hsn2 hin, List.map_append]
        refine ⟨[x0, x1, x2, some (sqR t R), some (.lst true (c.map dN)), none, x6, some (.lst true SG), none, some (.lst true (F.map eSg)), some (eSg x), none, none, none, none, none, none], [x0, x1, x2, some (sqR t R), some (.lst true (c.map dN)), none, x6, some (.lst true SG), none, some (.lst true (F.map eSg ++ [eSg x])), some (eSg x), none, none, none, none, none, none], rfl, ?_, ⟨_, rfl⟩⟩
        have hF3 : (F.map eSg).length < 16777216 := by rw [List.length_map]; omega
        generalize F.map eSg = FM at *
        generalize sqR t R = RD at *
        try simp at hmm
        simp -implicitDefEqProofs [b_l_smallest_4, hmm, hin, hsx, hpx, hpF, own, line, hF3, sizeLine_eq]
  rw [List.take_length] at e3
  have e4 := compV_map (W := W) (f := fun s => (evTo G W .none s).noRz) (g := fun s => (ev G W false e_l_smallest_5 s).noRz) (own := 10) (i := 7) (m := true)
    (s := [x0, x1, x2, some (sqR t R), some (.lst true (c.map dN)), none, x6, some (.lst true ((sg R c).map eSg)), none, some (.lst true ((fsts (sg R c)).map eSg)), none, none, none, none, none, none, none]) rfl (by decide) eSg (fun _ => rfl) (fun _ => true) (fun x => dN (ixOf (fsts (sg R c)) x)) (sg R c) rfl (by rw [hsgl, sizeLine_eq]; omega) W 0 (Nat.zero_le _) (by rw [hsgl]; omega) fun x hx => by
      have hin : x ∈ fsts (sg R c) := fsts_mem.mpr hx
      have hdv := idx_lst (f := eSg) (m := true) hin
      have hsx : still (eSg x) = true := rfl
      generalize ixOf (fsts (sg R c)) x = ix at *
      generalize (fsts (sg R c)).map eSg = FM at *
      generalize (sg R c).map eSg = SG at *
      generalize sqR t R = RD at *
      constructor
      · simp -implicitDefEqProofs []
      · intro _
        simp -implicitDefEqProofs [e_l_smallest_5, hdv, hsx, own, rcv]
  rw [filter_tt, List.drop_zero] at e4
  have hcan : (canon (sg R c)).map dN = (sg R c).map fun x => dN (ixOf (fsts (sg R c)) x) := by rw [canon, List.map_map]; rfl
  have hn2 : R.length ≤ 16777216 := by omega
  have hn3 : R.length < 1000000 := by omega
  rw [hcan]
  refine ⟨some (.lst true ((sg R c).map eSg)), some (.lst true ((fsts (sg R c)).map eSg)), y10', ?_⟩
  generalize ((sg R c).map fun x => dN (ixOf (fsts (sg R c)) x)) = CN at *
  have hst : stills ((sg R c).map eSg) = true := stills_mapT eSg (fun _ => rfl) _
  generalize (sg R c).map eSg = SG at *
  generalize (fsts (sg R c)).map eSg = FM at *
  cases t <;> (simp only [sqR, sqN, if_true, Bool.false_eq_true, if_false] at e1 e3 e4 ⊢; (try simp at e1 e3 e4); simp -implicitDefEqProofs [b_l_smallest_6, e1, e3, e4, hn2, hn3, hst])
/-- the row of one state -/
theorem sm_inner {G : Env0A} {W : Nat} (hR : Aut z s fs R) (hn : R.length ≤ 1000) (hz : z ≤ 1000) {F Fd : List Nat} {x : Nat} (hx : x ∈ cls R fs) (hFd : adds (stL R fs x) z F <+: Fd) (hl : Fd.length ≤ 1000) (x0 x1 x2 x3 x5 x6 x7 y8 x9 x10 x12 x13 x14 x16 : Option D) :
    ∃ y8', forL (fun s => exs G W [] b_l_smallest_7 s) (.name 8) ((R[smp R fs x]'(smp_lt hx)).map dN) [x0, x1, x2, x3, some (.lst true ((cls R fs).map dN)), x5, x6, x7, y8, x9, x10, some (.lst true (F.map dN)), x12, x13, x14, some (.lst true []), x16] =
      .nx [x0, x1, x2, x3, some (.lst true ((cls R fs).map dN)), x5, x6, x7, y8', x9, x10, some (.lst true ((adds (stL R fs x) z F).map dN)), x12, x13, x14, some (.lst true ((rowE (stL R fs) z Fd x).map dN)), x16] := by
  have hq := smp_lt hx
  obtain ⟨hrz, hrb⟩ := hR.row _ (List.getElem_mem hq)
  have hdl : ∀ a (ha : a < (R[smp R fs x]).length), stL R fs x a = (cls R fs).getD (R[smp R fs x])[a] 0 := fun a ha => by
    have hRq : R.getD (smp R fs x) [] = R[smp R fs x] := getD_eq hq
    rw [stL, dlt, hRq, getD_eq ha]
  generalize hr : R[smp R fs x] = r at *
  obtain ⟨s', h1, y8', rfl⟩ := for_st (st := fun s => exs G W [] b_l_smallest_7 s) (g := .name 8) dN r
    (fun j st => ∃ y8, st = [x0, x1, x2, x3, some (.lst true ((cls R fs).map dN)), x5, x6, x7, y8, x9, x10, some (.lst true ((adds (stL R fs x) j F).map dN)), x12, x13, x14, some (.lst true (((List.range j).map fun a => ixOf Fd (stL R fs x a)).map dN)), x16])
    (s := [x0, x1, x2, x3, some (.lst true ((cls R fs).map dN)), x5, x6, x7, y8, x9, x10, some (.lst true (F.map dN)), x12, x13, x14, some (.lst true []), x16]) ⟨y8, rfl⟩ fun j hj st hst => by
      obtain ⟨y8, rfl⟩ := hst
      have hjz : j < z := by omega
      have hpre : adds (stL R fs x) j F <+: Fd := (adds_pre2 _ F (by omega)).trans hFd
      have hpre2 : adds (stL R fs x) (j + 1) F <+: Fd := (adds_pre2 _ F (by omega)).trans hFd
      have hAl := hpre.length_le
      have hidx : ∀ H : List Nat, H <+: Fd → stL R fs x j ∈ H → ixOf H (stL R fs x j) = ixOf Fd (stL R fs x j) := fun H hp hm => (idx_pre hp hm).symm
      have hrow : (List.range (j + 1)).map (fun a => ixOf Fd (stL R fs x a)) = (List.range j).map (fun a => ixOf Fd (stL R fs x a)) ++ [ixOf Fd (stL R fs x j)] := by rw [List.range_succ, List.map_append]; rfl
      have hrl : ((List.range j).map fun a => ixOf Fd (stL R fs x a)).length = j := by simp
      have hadd1 : stL R fs x j ∈ adds (stL R fs x) j F → adds (stL R fs x) (j + 1) F = adds (stL R fs x) j F := fun h => by
        simp only [adds]; exact if_pos h
      have hadd2 : ¬ stL R fs x j ∈ adds (stL R fs x) j F → adds (stL R fs x) (j + 1) F = adds (stL R fs x) j F ++ [stL R fs x j] := fun h => by
        simp only [adds]; exact if_neg h
      have hjl : r[j] < R.length := hrb _ (List.getElem_mem hj)
      have hjc : r[j] < (cls R fs).length := by rw [cls_len]; exact hjl
      have hv : stL R fs x j = (cls R fs)[r[j]] := by rw [hdl j hj]; exact getD_eq hjc
      rw [hrow]
      generalize (List.range j).map (fun a => ixOf Fd (stL R fs x a)) = rr at *
      generalize adds (stL R fs x) j F = A at *
      generalize adds (stL R fs x) (j + 1) F = B at *
      generalize hy : stL R fs x j = y at *
      generalize r[j] = w at *
      have hCw : (cls R fs)[w] = y := hv.symm
      have hA2 : A.length < 16777216 := by omega
      have hj2 : j < 16777216 := by omega
      have hrr2 : rr.length < 16777216 := by omega
      have hmm := memD_dN y A
      by_cases hin : y ∈ A
      · have hB := hadd1 hin
        subst hB
        have hdv := idx_dN (m := true) hin
        rw [hidx B hpre hin] at hdv
        refine ⟨[x0, x1, x2, x3, some (.lst true ((cls R fs).map dN)), x5, x6, x7, some (.int (w : Nat)), x9, x10, some (.lst true (B.map dN)), x12, x13, x14, some (.lst true (rr.map dN)), x16], [x0, x1, x2, x3, some (.lst true ((cls R fs).map dN)), x5, x6, x7, some (.int (w : Nat)), x9, x10, some (.lst true (B.map dN)), x12, x13, x14, some (.lst true ((rr ++ [ixOf Fd y]).map dN)), x16], rfl, ?_, ⟨_, rfl⟩⟩
        generalize ixOf Fd y = iy at *
        generalize cls R fs = C at *
        try simp at hdv
        simp -implicitDefEqProofs [b_l_smallest_7, hjc, hCw, hin, hdv, rcv, line, hrl, hj2, sizeLine_eq]
      · have hB := hadd2 hin
        subst hB
        have hin2 : y ∈ A ++ [y] := by simp
        have hdv := idx_dN (m := true) hin2
        rw [hidx (A ++ [y]) hpre2 hin2] at hdv
        refine ⟨[x0, x1, x2, x3, some (.lst true ((cls R fs).map dN)), x5, x6, x7, some (.int (w : Nat)), x9, x10, some (.lst true (A.map dN)), x12, x13, x14, some (.lst true (rr.map dN)), x16], [x0, x1, x2, x3, some (.lst true ((cls R fs).map dN)), x5, x6, x7, some (.int (w : Nat)), x9, x10, some (.lst true ((A ++ [y]).map dN)), x12, x13, x14, some (.lst true ((rr ++ [ixOf Fd y]).map dN)), x16], rfl, ?_, ⟨_, rfl⟩⟩
        generalize ixOf Fd y = iy at *
        generalize cls R fs = C at *
        rw [List.map_append] at hdv
        simp -implicitDefEqProofs at hdv
        simp -implicitDefEqProofs [b_l_smallest_7, hjc, hCw, hin, hdv, rcv, line, hrl, hj2, hA2, sizeLine_eq]
  rw [hrz] at h1
  exact ⟨y8', h1⟩
theorem sm_explore {G : Env0A} {W : Nat} (hR : Aut z s fs R) (hn : R.length ≤ 1000) (hz : z ≤ 1000) (t : Bool) (x0 x1 x2 x6 x7 y8 x9 x10 : Option D) :
    ∃ y8' y13 y14 y15, forL (fun s => exs G W [] b_l_smallest_8 s) (.name 13) ((List.range R.length).map dN) [x0, x1, x2, some (sqR t R), some (.lst true ((cls R fs).map dN)), none, x6, x7, y8, x9, x10, some (.lst true [.int (s0L R fs s : Nat)]), some (.lst true []), none, none, none, none] =
      .nx [x0, x1, x2, some (sqR t R), some (.lst true ((cls R fs).map dN)), none, x6, x7, y8', x9, x10, some (.lst true ((FdL R fs z s).map dN)), some (.lst true ((lstR R fs z s).map tN)), y13, y14, y15, none] := by
  obtain ⟨hD, hFl, hFc⟩ := FdL_done (s := s) hR
  obtain ⟨s', h1, y8', y13, y14, y15, rfl⟩ := for_st (st := fun s => exs G W [] b_l_smallest_8 s) (g := .name 13) dN (List.range R.length)
    (fun k st => ∃ y8 y13 y14 y15, st = [x0, x1, x2, some (sqR t R), some (.lst true ((cls R fs).map dN)), none, x6, x7, y8, x9, x10, some (.lst true ((xpl (stL R fs) z (s0L R fs s) k).map dN)), some (.lst true ((((FdL R fs z s).take k).map (rowE (stL R fs) z (FdL R fs z s))).map tN)), y13, y14, y15, none])
    (s := [x0, x1, x2, some (sqR t R), some (.lst true ((cls R fs).map dN)), none, x6, x7, y8, x9, x10, some (.lst true [.int (s0L R fs s : Nat)]), some (.lst true []), none, none, none, none]) ⟨y8, none, none, none, rfl⟩ fun k hk st hst => by
      obtain ⟨y8, y13, y14, y15, rfl⟩ := hst
      have hgk : (List.range R.length)[k]'hk = k := by simp
      have hkl : k < R.length := by simpa using hk
      rw [hgk]
      by_cases hkF : k < (FdL R fs z s).length
      · have hkx := hD.lt k hkF
        have hpk : xpl (stL R fs) z (s0L R fs s) k <+: FdL R fs z s := by
          have := xpl_pre (st := stL R fs) (z := z) (s0 := s0L R fs s) (Nat.le_of_lt hkF)
          rwa [(hD.at_ 0).1] at this
        have hpk2 : xpl (stL R fs) z (s0L R fs s) (k + 1) <+: FdL R fs z s := by
          have := xpl_pre (st := stL R fs) (z := z) (s0 := s0L R fs s) (show k + 1 ≤ (FdL R fs z s).length from hkF)
          rwa [(hD.at_ 0).1] at this
        have hx : (xpl (stL R fs) z (s0L R fs s) k)[k]? = some (FdL R fs z s)[k] := by
          have h1 := List.prefix_iff_getElem?.mp hpk k hkx
          rw [List.getElem?_eq_getElem hkF] at h1
          rw [List.getElem?_eq_getElem hkx]; exact h1.symm
        have hxs : xpl (stL R fs) z (s0L R fs s) (k + 1) = adds (stL R fs (FdL R fs z s)[k]) z (xpl (stL R fs) z (s0L R fs s) k) := by
          exact xpl_next hx
        rw [hxs] at hpk2
        have hxc := hFc _ (List.getElem_mem hkF)
        have htk : (((FdL R fs z s).take (k + 1)).map (rowE (stL R fs) z (FdL R fs z s))).map tN = (((FdL R fs z s).take k).map (rowE (stL R fs) z (FdL R fs z s))).map tN ++ [.tup ((rowE (stL R fs) z (FdL R fs z s) (FdL R fs z s)[k]).map dN)] := by
          rw [← List.take_append_getElem hkF, List.map_append, List.map_append]; rfl
        have hdv := idx_dN (m := true) hxc
        have hrl : ((((FdL R fs z s).take k).map (rowE (stL R fs) z (FdL R fs z s))).map tN).length < 16777216 := by
          simp only [List.length_map, List.length_take]; omega
        obtain ⟨y8', hi⟩ := sm_inner (G := G) (W := W) hR hn hz hxc hpk2 (by omega) x0 x1 x2 (some (sqR t R)) none x6 x7 y8 x9 x10 (some (.lst true ((((FdL R fs z s).take k).map (rowE (stL R fs) z (FdL R fs z s))).map tN))) (some (.int (k : Nat))) (some (.int (smp R fs (FdL R fs z s)[k] : Nat))) none
        have hq := smp_lt hxc
        have hix : ixOf (cls R fs) (FdL R fs z s)[k] = smp R fs (FdL R fs z s)[k] := rfl
        rw [hix] at hdv
        refine ⟨[x0, x1, x2, some (sqR t R), some (.lst true ((cls R fs).map dN)), none, x6, x7, y8, x9, x10, some (.lst true ((xpl (stL R fs) z (s0L R fs s) k).map dN)), some (.lst true ((((FdL R fs z s).take k).map (rowE (stL R fs) z (FdL R fs z s))).map tN)), some (.int (k : Nat)), y14, y15, none], [x0, x1, x2, some (sqR t R), some (.lst true ((cls R fs).map dN)), none, x6, x7, y8', x9, x10, some (.lst true ((xpl (stL R fs) z (s0L R fs s) (k + 1)).map dN)), some (.lst true ((((FdL R fs z s).take (k + 1)).map (rowE (stL R fs) z (FdL R fs z s))).map tN)), some (.int (k : Nat)), some (.int (smp R fs (FdL R fs z s)[k] : Nat)), some (.lst true ((rowE (stL R fs) z (FdL R fs z s) (FdL R fs z s)[k]).map dN)), none], rfl, ?_, ⟨_, _, _, _, rfl⟩⟩
        rw [htk, hxs]
        have hRk : R[smp R fs (FdL R fs z s)[k]]? = some (R[smp R fs (FdL R fs z s)[k]]'hq) := List.getElem?_eq_getElem hq
        have hgx : (xpl (stL R fs) z (s0L R fs s) k)[k] = (FdL R fs z s)[k] := by
          rw [List.getElem?_eq_getElem hkx] at hx; exact Option.some.inj hx
        have hrk : (rowE (stL R fs) z (FdL R fs z s) (FdL R fs z s)[k]).length = z := by simp [rowE]
        generalize (((FdL R fs z s).take k).map (rowE (stL R fs) z (FdL R fs z s))).map tN = RR at *
        generalize rowE (stL R fs) z (FdL R fs z s) (FdL R fs z s)[k] = row at *
        generalize (FdL R fs z s)[k] = x at *
        generalize hrq : R[smp R fs x] = r at *
        generalize smp R fs x = q at *
        have hzl : ¬ 16777216 < row.length := by omega
        generalize adds (stL R fs x) z (xpl (stL R fs) z (s0L R fs s) k) = B at *
        generalize xpl (stL R fs) z (s0L R fs s) k = A at *
        generalize cls R fs = C at *
        cases t <;> (simp only [sqR, if_true, Bool.false_eq_true, if_false] at hi ⊢; (try simp at hi hdv); simp -implicitDefEqProofs [b_l_smallest_8, hkx, hgx, hdv, hq, hRk, hrq, hi, hrl, line, rcv, sqN_t, sqN_f, hzl, sizeLine_eq])
      · have hle : (FdL R fs z s).length ≤ k := by omega
        have ex1 := (hD.at_ k).2 hle
        have ex2 := (hD.at_ (k + 1)).2 (by omega)
        have et1 : (FdL R fs z s).take k = FdL R fs z s := List.take_of_length_le hle
        have et2 : (FdL R fs z s).take (k + 1) = FdL R fs z s := List.take_of_length_le (by omega)
        rw [ex1, ex2, et1, et2]
        refine ⟨[x0, x1, x2, some (sqR t R), some (.lst true ((cls R fs).map dN)), none, x6, x7, y8, x9, x10, some (.lst true ((FdL R fs z s).map dN)), some (.lst true (((FdL R fs z s).map (rowE (stL R fs) z (FdL R fs z s))).map tN)), some (.int (k : Nat)), y14, y15, none], [x0, x1, x2, some (sqR t R), some (.lst true ((cls R fs).map dN)), none, x6, x7, y8, x9, x10, some (.lst true ((FdL R fs z s).map dN)), some (.lst true (((FdL R fs z s).map (rowE (stL R fs) z (FdL R fs z s))).map tN)), some (.int (k : Nat)), y14, y15, none], rfl, ?_, ⟨_, _, _, _, rfl⟩⟩
        have hle2 : ¬ k < (FdL R fs z s).length := hkF
        generalize ((FdL R fs z s).map (rowE (stL R fs) z (FdL R fs z s))).map tN = RR at *
        generalize FdL R fs z s = Fd at *
        generalize cls R fs = C at *
        generalize sqR t R = RD at *
        simp -implicitDefEqProofs [b_l_smallest_8, hle2]
  rw [List.length_range] at h1
  rw [(hD.at_ R.length).2 hFl, List.take_of_length_le hFl] at h1
  exact ⟨y8', y13, y14, y15, h1⟩
end
/-- the least automaton as the law tells it -/
def SmallOk (g : Callee) : Prop := ∀ (t : Bool) (z s : Nat) (fs : List Nat) (R : List (List Nat)), Aut z s fs R → R.length ≤ 1000 → z ≤ 1000 → g [autS t s fs R] = .ok (.tup [.int 0, .tup ((lstF R fs z s).map dN), .tup ((lstR R fs z s).map tN)]) []
theorem small_ok {G : Env0A} {W : Nat} (hW : 2000 < W) : SmallOk (runF G W f_l_smallest) := by
  intro t z s fs R hR hn hz
  have hn1 : 0 < R.length := Nat.lt_of_le_of_lt (Nat.zero_le _) hR.st
  have e1 := compL_map (f := fun s => (evTo G W .none s).noRz) (g := fun s => (ev G W false e_l_smallest_1 s).noRz) (own := 5)
    (s := [some (autS t s fs R), some (.int (s : Nat)), some (sqN t fs), some (sqR t R), none, none, none, none, none, none, none, none, none, none, none, none, none]) rfl dN (fun _ => true) (fun k => dN (if k ∈ fs then 1 else 0)) (List.range R.length) fun k _ => by
      generalize sqR t R = RD
      generalize autS t s fs R = AD
      constructor
      · simp -implicitDefEqProofs []
      · intro _
        by_cases h : k ∈ fs
        · cases t <;> simp -implicitDefEqProofs [e_l_smallest_1, h, sqN_t, sqN_f]
        · cases t <;> simp -implicitDefEqProofs [e_l_smallest_1, h, sqN_t, sqN_f]
  rw [filter_tt] at e1
  have hc0 : (List.range R.length).map (fun k => dN (if k ∈ fs then 1 else 0)) = (clsJ R fs 0).map dN := by
    simp only [clsJ, c0, List.map_map]; rfl
  rw [hc0] at e1
  obtain ⟨s', e2, y6, y7, y9, y10, rfl⟩ := for_st (st := fun s => exs G W [] b_l_smallest_6 s) (g := .name 6) dN (List.range R.length)
    (fun k st => ∃ y6 y7 y9 y10, st = [some (autS t s fs R), some (.int (s : Nat)), some (sqN t fs), some (sqR t R), some (.lst true ((clsJ R fs k).map dN)), none, y6, y7, none, y9, y10, none, none, none, none, none, none])
    (s := [some (autS t s fs R), some (.int (s : Nat)), some (sqN t fs), some (sqR t R), some (.lst true ((clsJ R fs 0).map dN)), none, none, none, none, none, none, none, none, none, none, none, none]) ⟨none, none, none, none, rfl⟩ fun k hk st hst => by
      obtain ⟨y6, y7, y9, y10, rfl⟩ := hst
      have hgk : (List.range R.length)[k]'hk = k := by simp
      rw [hgk]
      obtain ⟨y7', y9', y10', h⟩ := sm_turn (G := G) (W := W) (by omega) hR hn hz (c := clsJ R fs k) (clsJ_len k) t (some (autS t s fs R)) (some (.int (s : Nat))) (some (sqN t fs)) (some (.int (k : Nat))) y7 y9 y10
      exact ⟨[some (autS t s fs R), some (.int (s : Nat)), some (sqN t fs), some (sqR t R), some (.lst true ((clsJ R fs k).map dN)), none, some (.int (k : Nat)), y7, none, y9, y10, none, none, none, none, none, none], _, rfl, h, ⟨_, _, _, _, rfl⟩⟩
  rw [List.length_range] at e2
  have hcc : clsJ R fs R.length = cls R fs := rfl
  rw [hcc] at e2
  obtain ⟨y8', y13, y14, y15, e3⟩ := sm_explore (G := G) (W := W) (s := s) hR hn hz t (some (autS t s fs R)) (some (.int (s : Nat))) (some (sqN t fs)) y6 y7 none y9 y10
  obtain ⟨hD, hFl, hFc⟩ := FdL_done (s := s) hR
  have e4 := compL_map (f := fun s => (evTo G W t_l_smallest_10 s).noRz) (g := fun s => (ev G W false e_l_smallest_9 s).noRz) (own := 5)
    (s := [some (autS t s fs R), some (.int (s : Nat)), some (sqN t fs), some (sqR t R), some (.lst true ((cls R fs).map dN)), none, y6, y7, y8', y9, y10, some (.lst true ((FdL R fs z s).map dN)), some (.lst true ((lstR R fs z s).map tN)), y13, y14, y15, none]) rfl dN (fun k => ((FdL R fs z s)[k]?.map (finL R fs)).getD false) dN (List.range (FdL R fs z s).length) fun k hk => by
      have hk := List.mem_range.mp hk
      have hkx : (FdL R fs z s)[k]? = some (FdL R fs z s)[k] := List.getElem?_eq_getElem hk
      have hdv := idx_dN (m := true) (hFc _ (List.getElem_mem hk))
      have hfin : finL R fs (FdL R fs z s)[k] = decide (ixOf (cls R fs) (FdL R fs z s)[k] ∈ fs) := rfl
      rw [hkx]
      simp only [Option.map_some, Option.getD_some, hfin]
      generalize (lstR R fs z s).map tN = LR at *
      generalize sqR t R = RD at *
      generalize autS t s fs R = AD at *
      generalize hxx : (FdL R fs z s)[k] = x at *
      generalize FdL R fs z s = Fd at *
      generalize ixOf (cls R fs) x = ix at *
      generalize (cls R fs) = C at *
      constructor
      · try simp at hdv
        cases t <;> simp -implicitDefEqProofs [t_l_smallest_10, hk, hxx, hdv, rcv, sqN_t, sqN_f]
      · intro _
        simp -implicitDefEqProofs [e_l_smallest_9]
  have hfs : ((List.range (FdL R fs z s).length).filter fun k => ((FdL R fs z s)[k]?.map (finL R fs)).getD false) = lstF R fs z s := rfl
  rw [hfs] at e4
  have hsc : s < (cls R fs).length := by rw [cls_len]; exact hR.st
  have hs0 : s0L R fs s = (cls R fs)[s] := getD_eq hsc
  have hCs : (cls R fs)[s]? = some (cls R fs)[s] := List.getElem?_eq_getElem hsc
  rw [hs0] at e3
  have hn2 : R.length ≤ 16777216 := by omega
  have hn3 : R.length < 1000000 := by omega
  have hF2 : (FdL R fs z s).length ≤ 16777216 := by omega
  have hF3 : (FdL R fs z s).length < 1000000 := by omega
  have hlf : (lstF R fs z s).length ≤ 16777216 := by
    have := List.length_filter_le (fun k => ((FdL R fs z s)[k]?.map (finL R fs)).getD false) (List.range (FdL R fs z s).length)
    rw [hfs, List.length_range] at this
    omega
  have hst : stills ((lstR R fs z s).map tN) = true := stills_mapT tN (fun _ => rfl) _
  generalize lstF R fs z s = lf at *
  generalize (lstR R fs z s).map tN = LR at *
  generalize FdL R fs z s = Fd at *
  generalize (cls R fs) = C at *
  generalize (clsJ R fs 0).map dN = CZ at *
  cases t <;> (simp only [autS, sqR, if_true, Bool.false_eq_true, if_false, sqN_t, sqN_f] at e1 e2 e3 e4 ⊢; (try simp at e1 e2 e3 e4); simp -implicitDefEqProofs [runF, f_l_smallest_eq, g_l_smallest, e1, e2, e3, e4, hn2, hn3, hF2, hF3, hsc, hCs, hst, own])
/-! Abm136: an automaton's parts, refused or taken; the state behind a word -/
/-! Abm137: spoilt parts are refused -/
def ci (n : Nat) : Int := n
section
variable {z s : Nat} {fs : List Nat} {R : List (List Nat)} {gO : Callee}
end
section
variable {G : Env0A} {W : Nat} {z s : Nat} {fs : List Nat} {R : List (List Nat)}
end
/-! Abm138: the law k10 -/
section
variable {G : Env0A} {W : Nat} {z s : Nat} {fs : List Nat} {R : List (List Nat)}
theorem lstR_le (hR : Aut z s fs R) : (lstR R fs z s).length ≤ R.length := by
  have := (FdL_done hR).2.1
  simpa [lstR, rowsE] using this
end
/-! Abm139: what explored and least accept; the least automaton of a least automaton -/
section
variable {α : Type} [DecidableEq α] {st : α → Nat → α} {z : Nat} {s0 : α} {Fd : List α} {fin : α → Bool}
/-! explored under new names -/
variable {β : Type} [DecidableEq β]
end
section
variable {z s : Nat} {fs : List Nat} {R : List (List Nat)}
theorem lst_aut (hR : Aut z s fs R) : Aut z 0 (lstF R fs z s) (lstR R fs z s) := ex_aut (FdL_done hR).1 hR.z1
end
/-! Abm140: the automaton of least words -/
/-! Abm141: all short words; is it the least automaton? -/
def ext1 (n : Nat) (w : List Nat) : List (List Nat) := (List.range n).map fun a => w ++ [a]
def extW (n : Nat) (S : List (List Nat)) : List (List Nat) := S.flatMap (ext1 n)
def layN (n : Nat) : Nat → List (List Nat)
  | 0 => [[]]
  | k + 1 => extW n (layN n k)
theorem ext_len (n : Nat) : ∀ S : List (List Nat), (extW n S).length = S.length * n
  | [] => by simp [extW]
  | w :: S => by
    have := ext_len n S
    simp only [extW, List.flatMap_cons, List.length_append, ext1, List.length_map, List.length_range, List.length_cons] at this ⊢
    rw [this, Nat.add_mul]; omega
theorem lay_len (n : Nat) : ∀ k, (layN n k).length = n ^ k
  | 0 => rfl
  | k + 1 => by rw [layN, ext_len, lay_len n k, Nat.pow_succ]
theorem lay_mem {n : Nat} : ∀ (k : Nat) (w : List Nat), w ∈ layN n k ↔ w.length = k ∧ ∀ a, a ∈ w → a < n
  | 0, w => by
    simp only [layN, List.mem_singleton]
    constructor
    · rintro rfl; simp
    · rintro ⟨h, _⟩; exact List.length_eq_zero_iff.mp h
  | k + 1, w => by
    simp only [layN, extW, List.mem_flatMap, ext1, List.mem_map, List.mem_range]
    constructor
    · rintro ⟨u, hu, a, ha, rfl⟩
      obtain ⟨h1, h2⟩ := (lay_mem k u).mp hu
      refine ⟨by simp [h1], fun b hb => ?_⟩
      rcases List.mem_append.mp hb with h | h
      · exact h2 b h
      · rw [List.mem_singleton.mp h]; exact ha
    · rintro ⟨h1, h2⟩
      have hne : w ≠ [] := by intro e; rw [e] at h1; simp at h1
      have e := List.dropLast_concat_getLast hne
      refine ⟨w.dropLast, (lay_mem k _).mpr ⟨by rw [List.length_dropLast]; omega, fun a ha => h2 a (List.dropLast_subset _ ha)⟩, w.getLast hne, h2 _ (List.getLast_mem hne), e⟩
section
variable {G : Env0A} {W : Nat}
end
/-! Abm142: the law k13 -/
section
variable {G : Env0A} {W : Nat}
end
/-! Abm143: tables of actions, plainly; powers that settle -/
section
variable {st : List Nat → Nat → List Nat} {z : Nat} {s0 : List Nat}
abbrev PW := List Nat × List Nat
def addW (st : List Nat → Nat → List Nat) (q : PW) : Nat → List PW → List PW
  | 0, l => l
  | z + 1, l => if st q.2 z ∈ (addW st q z l).map Prod.snd then addW st q z l else addW st q z l ++ [(q.1 ++ [z], st q.2 z)]
def xW (st : List Nat → Nat → List Nat) (z : Nat) (s0 : List Nat) : Nat → List PW
  | 0 => [([], s0)]
  | k + 1 => match (xW st z s0 k)[k]? with
    | some q => addW st q z (xW st z s0 k)
    | none => xW st z s0 k
theorem addW_snd (q : PW) : ∀ (z : Nat) (l : List PW), (addW st q z l).map Prod.snd = adds (st q.2) z (l.map Prod.snd)
  | 0, l => rfl
  | z + 1, l => by
    simp only [addW, adds, ← addW_snd q z l]
    split
    · rfl
    · rw [List.map_append]; rfl
theorem xW_snd : ∀ k, (xW st z s0 k).map Prod.snd = xpl st z s0 k
  | 0 => rfl
  | k + 1 => by
    have ih := xW_snd k
    simp only [xW, xpl, ← ih, List.getElem?_map]
    cases (xW st z s0 k)[k]? with
    | none => rfl
    | some q => exact addW_snd q z _
theorem addW_pre (q : PW) : ∀ (z : Nat) (l : List PW), l <+: addW st q z l
  | 0, l => List.prefix_refl l
  | z + 1, l => by
    simp only [addW]
    split
    · exact addW_pre q z l
    · exact (addW_pre q z l).trans (List.prefix_append _ _)
theorem addW_pre2 (q : PW) (l : List PW) {j m : Nat} (h : j ≤ m) : addW st q j l <+: addW st q m l := by
  induction m with
  | zero => have : j = 0 := by omega
            subst this; exact List.prefix_refl _
  | succ m ih =>
    by_cases hj : j = m + 1
    · subst hj; exact List.prefix_refl _
    · refine (ih (by omega)).trans ?_
      simp only [addW]
      split
      · exact List.prefix_refl _
      · exact List.prefix_append _ _
theorem xW_len (k : Nat) : (xW st z s0 k).length = (xpl st z s0 k).length := by rw [← xW_snd, List.length_map]
theorem xW_end {Fd : List (List Nat)} (h : ExDone st z s0 Fd) {k : Nat} (hk : Fd.length ≤ k) : xW st z s0 k = xW st z s0 Fd.length := by
  induction k with
  | zero => have : Fd.length = 0 := by omega
            rw [this]
  | succ k ih =>
    by_cases e : Fd.length = k + 1
    · rw [e]
    · have ih := ih (by omega)
      have hl : (xW st z s0 k).length = Fd.length := by rw [xW_len, (h.at_ k).2 (by omega)]
      simp only [xW]
      rw [List.getElem?_eq_none (by omega)]
      exact ih
def wD (l : List PW) : D := .dic true 2 ((l.map Prod.snd).map tN) ((l.map Prod.fst).map tN)
theorem kOk2_tN (l : List Nat) : kOk 2 (tN l) = true := by
  have h1 : nOk (tN l) = true := by
    rw [tN_ap, nOk]; exact nOks_dN l
  have h2 : (nk (tN l)).depth ≤ 8 := by
    rw [tN_ap]
    simp only [nk, PySem.NestedKey.depth, dep_dN]
    omega
  simp only [kOk]
  simp only [tN_ap] at h1 h2 ⊢
  simp [kOk, nOks_dN, h2]
theorem en2 : EnK 2 tN := ⟨fun a b => En.eq (f := tN) a b, kOk2_tN, fun _ => rfl, fun l => by simp only [tN_ap, noClo]; exact noClos_mapT dN (fun _ => rfl) l, fun l => by simp only [tN_ap, frz, frzs_dN]⟩
theorem dval_pw {w p : List Nat} : ∀ {l : List PW}, (l.map Prod.snd).Nodup → (w, p) ∈ l → dval ((l.map Prod.snd).map tN) ((l.map Prod.fst).map tN) (tN p) = some (tN w)
  | [], _, h => by simp at h
  | q :: l, hn, h => by
    simp only [List.map_cons, dval]
    have e : eqD (tN q.2) (tN p) = decide (q.2 = p) := En.eq (f := tN) q.2 p
    rw [e]
    rcases List.mem_cons.mp h with h | h
    · rw [← h]; simp
    · have hne : ¬ q.2 = p := fun z => by
        simp only [List.map_cons, List.nodup_cons] at hn
        exact hn.1 (by rw [z]; exact List.mem_map_of_mem (f := Prod.snd) h)
      rw [decide_eq_false hne]
      simp only [List.map_cons, List.nodup_cons] at hn
      exact dval_pw hn.2 h
theorem dput_pw {l : List PW} {w p : List Nat} (h : ¬ p ∈ l.map Prod.snd) : dput 2 ((l.map Prod.snd).map tN) ((l.map Prod.fst).map tN) (tN p) (tN w) = wD (l ++ [(w, p)]) := by
  rw [dput, memD_e en2, if_neg (by simpa using h), wD]
  simp
end
/-! powers -/
theorem per {β : Type} {f : β → β} {q : Nat → β} (hq : ∀ t, q (t + 1) = f (q t)) {a b m : Nat} (hab : a < b) (e : q a = q b) (hm : q (m + 1) = q m) : q (a + 1) = q a := by
  have c : ∀ t, q (m + t) = q m := by
    intro t
    induction t with
    | zero => rfl
    | succ t ih => rw [show m + (t + 1) = (m + t) + 1 by omega, hq, ih, ← hq, hm]
  have p1 : ∀ t, q (a + t) = q (b + t) := by
    intro t
    induction t with
    | zero => exact e
    | succ t ih => rw [show a + (t + 1) = (a + t) + 1 by omega, show b + (t + 1) = (b + t) + 1 by omega, hq, hq, ih]
  have p2 : ∀ s t, q (a + t) = q (a + t + s * (b - a)) := by
    intro s
    induction s with
    | zero => intro t; simp
    | succ s ih =>
      intro t
      rw [ih t, show a + t + s * (b - a) = a + (t + s * (b - a)) by omega, p1]
      congr 1
      rw [Nat.add_mul]; omega
  have hge : m ≤ m * (b - a) := Nat.le_mul_of_pos_right m (by omega)
  have e1 := p2 m 0
  have e2 := p2 m 1
  rw [show a + 0 + m * (b - a) = m + (a + 0 + m * (b - a) - m) by omega, c] at e1
  rw [show a + 1 + m * (b - a) = m + (a + 1 + m * (b - a) - m) by omega, c] at e2
  rw [e2, ← e1]; rfl
def apA (one p : List Nat) : List Nat := p.map fun s => one.getD s 0
def pwA (one : List Nat) : Nat → List Nat
  | 0 => one
  | k + 1 => apA one (pwA one k)
theorem pw_len (one : List Nat) : ∀ k, (pwA one k).length = one.length
  | 0 => rfl
  | k + 1 => by rw [pwA, apA, List.length_map, pw_len one k]
theorem pw_lt {one : List Nat} (h : ∀ x, x ∈ one → x < one.length) : ∀ k x, x ∈ pwA one k → x < one.length
  | 0, x, hx => h x hx
  | k + 1, x, hx => by
    simp only [pwA, apA, List.mem_map] at hx
    obtain ⟨s, hs, rfl⟩ := hx
    have hl := pw_lt h k s hs
    have : one.getD s 0 = one[s] := by simp [hl]
    rw [this]; exact h _ (List.getElem_mem hl)
def restB (one : List Nat) : Bool := (List.range (one.length + 1)).any fun k => decide (pwA one (k + 1) = pwA one k)
theorem hole (n : Nat) (f : Nat → Nat) (h : ∀ k, k ≤ n → f k < n) : ∃ a b, a < b ∧ b ≤ n ∧ f a = f b := by
  refine Classical.byContradiction fun hn => ?_
  have hnd : ((List.range (n + 1)).map f).Nodup := by
    refine List.pairwise_iff_getElem.mpr fun i j hi hj hij e => hn ⟨i, j, hij, ?_, ?_⟩
    · simp at hj; omega
    · simpa using e
  have := nodup_le (m := List.range n) hnd fun x hx => by
    obtain ⟨k, hk, rfl⟩ := List.mem_map.mp hx
    exact List.mem_range.mpr (h k (by have := List.mem_range.mp hk; omega))
  simp at this
  omega
/-- once two powers are the same, the later steps tell -/
theorem rest_iff {one : List Nat} (h : ∀ x, x ∈ one → x < one.length) {i j : Nat} (hij : i < j) (e : pwA one i = pwA one j) : pwA one (j + 1) = pwA one j ↔ restB one = true := by
  constructor
  · intro hj
    rw [restB, List.any_eq_true]
    refine ⟨one.length, List.mem_range.mpr (by omega), decide_eq_true ?_⟩
    refine List.ext_getElem (by rw [pw_len, pw_len]) fun x h1 h2 => ?_
    have hx : x < one.length := by rwa [pw_len] at h2
    have hg : ∀ k, (pwA one k).getD x 0 = (pwA one k)[x]'(by rw [pw_len]; exact hx) := fun k => by
      have : x < (pwA one k).length := by rw [pw_len]; exact hx
      simp [this]
    have hq : ∀ t, (pwA one (t + 1)).getD x 0 = one.getD ((pwA one t).getD x 0) 0 := fun t => by
      rw [hg (t + 1), hg t]
      simp only [pwA, apA, List.getElem_map]
    obtain ⟨a, b, hab, hb, he⟩ := hole one.length (fun k => (pwA one k).getD x 0) fun k _ => by
      show (pwA one k).getD x 0 < _
      rw [hg k]; exact pw_lt h k _ (List.getElem_mem _)
    have hfix := per (q := fun k => (pwA one k).getD x 0) (f := fun y => one.getD y 0) hq hab he (m := j) (by show (pwA one (j + 1)).getD x 0 = (pwA one j).getD x 0; rw [hj])
    have hst : ∀ t, (pwA one (a + t)).getD x 0 = (pwA one a).getD x 0 := by
      intro t
      induction t with
      | zero => rfl
      | succ t ih => rw [show a + (t + 1) = (a + t) + 1 by omega, hq, ih, ← hq]; exact hfix
    have e1 := hst (one.length + 1 - a)
    have e2 := hst (one.length - a)
    rw [show a + (one.length + 1 - a) = one.length + 1 by omega] at e1
    rw [show a + (one.length - a) = one.length by omega] at e2
    rw [← hg, ← hg, e1, e2]
  · intro hr
    rw [restB, List.any_eq_true] at hr
    obtain ⟨k, _, hk⟩ := hr
    have hk := of_decide_eq_true hk
    have h1 := per (q := pwA one) (f := apA one) (fun t => rfl) hij e hk
    have hst : ∀ t, pwA one (i + t) = pwA one i := by
      intro t
      induction t with
      | zero => rfl
      | succ t ih => rw [show i + (t + 1) = (i + t) + 1 by omega, pwA, ih]; exact h1
    have e1 := hst (j + 1 - i)
    have e2 := hst (j - i)
    rw [show i + (j + 1 - i) = j + 1 by omega] at e1
    rw [show i + (j - i) = j by omega] at e2
    rw [e1, e2]
/-! Abm144: action, rests, settles -/
section
variable {G : Env0A} {W : Nat} {z s : Nat} {fs : List Nat} {R : List (List Nat)}
theorem dlt_get (hR : Aut z s fs R) {q a : Nat} (hq : q < R.length) (ha : a < z) : ∃ h1 : a < R[q].length, dlt R q a = R[q][a] := by
  have hRq : R.getD q [] = R[q] := getD_eq hq
  have hrl : a < R[q].length := by rw [(hR.row _ (List.getElem_mem hq)).1]; exact ha
  exact ⟨hrl, by rw [dlt, hRq]; exact getD_eq hrl⟩
def ActOk (g : Callee) : Prop := ∀ (z s : Nat) (fs : List Nat) (R : List (List Nat)) (w : List Nat), Aut z s fs R → R.length ≤ 900 → (∀ x, x ∈ w → x < z) → g [auD false z s fs R, .lst false (w.map dN)] = .ok (tN ((List.range R.length).map fun q => runA R q w)) []
theorem act_ok (hW : 2000 < W) : ActOk (runF G W f_action) := by
  intro z s fs R w hR hn hw
  obtain ⟨s', e, y3, rfl⟩ := for_st (st := fun s => exs G W [] b_action_2 s) (g := .name 3) dN w
    (fun k st => ∃ y3, st = [some (auD false z s fs R), some (.lst false (w.map dN)), some (.lst true (((List.range R.length).map fun q => runA R q (w.take k)).map dN)), y3, none])
    (s := [some (auD false z s fs R), some (.lst false (w.map dN)), some (.lst true ((List.range R.length).map dN)), none, none]) ⟨none, by simp [runA]⟩ fun k hk st hst => by
      obtain ⟨y3, rfl⟩ := hst
      have ha := hw w[k] (List.getElem_mem hk)
      have hc := compV_map (W := W) (f := fun s => (evTo G W .none s).noRz) (g := fun s => (ev G W false e_action_1 s).noRz) (own := 4) (i := 2)
        (s := [some (auD false z s fs R), some (.lst false (w.map dN)), some (.lst true (((List.range R.length).map fun q => runA R q (w.take k)).map dN)), some (.int (w[k] : Nat)), none]) rfl (by decide) dN (fun _ => rfl) (fun _ => true) (fun q => dN (dlt R q w[k])) ((List.range R.length).map fun q => runA R q (w.take k)) (m := true) rfl (by rw [sizeLine_eq]; simp; omega) W 0 (by omega) (by simp; omega) fun q hq => by
          obtain ⟨p, hp, rfl⟩ := List.mem_map.mp hq
          have hp := List.mem_range.mp hp
          have hql := runA_lt hR (w.take k) p hp fun x hx => hw x (List.mem_of_mem_take hx)
          generalize runA R p (w.take k) = q at *
          generalize w[k] = a at *
          obtain ⟨h1, h2⟩ := dlt_get hR hql ha
          rw [h2]
          generalize hRr : R[q] = r at *
          have hRq2 : R[q]? = some r := by rw [List.getElem?_eq_getElem hql, hRr]
          generalize (List.range R.length).map (fun q => runA R q (w.take k)) = QL
          simp only [auD]
          constructor
          · simp -implicitDefEqProofs []
          · intro _
            simp -implicitDefEqProofs [e_action_1, hql, hRq2, hRr, h1, tN]
      rw [List.drop_zero, filter_tt] at hc
      have e2 : ((List.range R.length).map fun q => runA R q (w.take k)).map (fun q => dN (dlt R q w[k])) = ((List.range R.length).map fun q => runA R q (w.take (k + 1))).map dN := by
        rw [List.map_map, List.map_map]
        refine List.map_congr_left fun q _ => ?_
        simp only [Function.comp_apply]
        rw [← List.take_append_getElem hk, runA_snoc]
      rw [e2] at hc
      refine ⟨[some (auD false z s fs R), some (.lst false (w.map dN)), some (.lst true (((List.range R.length).map fun q => runA R q (w.take k)).map dN)), some (.int (w[k] : Nat)), none], [some (auD false z s fs R), some (.lst false (w.map dN)), some (.lst true (((List.range R.length).map fun q => runA R q (w.take (k + 1))).map dN)), some (.int (w[k] : Nat)), none], rfl, ?_, _, rfl⟩
      have hs1 : stills (((List.range R.length).map fun q => runA R q (w.take k)).map dN) = true := stills_mapT dN (fun _ => rfl) _
      generalize ((List.range R.length).map fun q => runA R q (w.take (k + 1))).map dN = Q2 at *
      generalize ((List.range R.length).map fun q => runA R q (w.take k)).map dN = Q1 at *
      generalize auD false z s fs R = A1 at *
      try simp at hc
      simp -implicitDefEqProofs [b_action_2, hs1, hc]
  rw [List.take_length] at e
  have hlr : bi1 .lrng (.int (R.length : Nat)) = some (.lst true ((List.range R.length).map dN)) := by
    have h1 : inR (R.length : Nat) = true := by simp only [inR, Nat.ble_eq]; omega
    have h2 : ((R.length : Nat) : Int) ≤ 16777216 := by omega
    show (if inR (R.length : Nat) && decide (((R.length : Nat) : Int) ≤ 16777216) then some (D.lst true ((List.range ((R.length : Nat) : Int).toNat).map fun (i : Nat) => D.int i)) else none) = _
    rw [h1, decide_eq_true h2]; rfl
  have hRz : R.length ≤ 16777216 := by omega
  have hs1 : stills (((List.range R.length).map fun q => runA R q w).map dN) = true := stills_mapT dN (fun _ => rfl) _
  have hf1 : frzs (((List.range R.length).map fun q => runA R q w).map dN) = ((List.range R.length).map fun q => runA R q w).map dN := frzs_dN _
  rw [tN_ap]
  generalize ((List.range R.length).map fun q => runA R q w).map dN = Q1 at *
  have hlT : (R.map tN).length = R.length := List.length_map ..
  simp only [auD] at e ⊢
  generalize R.map tN = RT at *
  generalize (List.range R.length).map dN = RN at *
  try simp at e
  simp -implicitDefEqProofs [runF, f_action_eq, g_action, hlT, hRz, hlr, e, hs1, hf1]
/-! powers -/
theorem ap_comp {one : List Nat} (hone : ∀ x, x ∈ one → x < one.length) {p : List Nat} (hp : ∀ x, x ∈ p → x < one.length) (x1 x2 x3 : Option D) :
    compL (fun s => (evTo G W .none s).noRz) (fun s => (ev G W false e_l_rests_1 s).noRz) 4 (p.map dN) [some (tN one), x1, x2, x3, none] = .ok ((apA one p).map dN) [some (tN one), x1, x2, x3, none] := by
  have h := compL_map (f := fun s => (evTo G W .none s).noRz) (g := fun s => (ev G W false e_l_rests_1 s).noRz) (own := 4)
    (s := [some (tN one), x1, x2, x3, none]) rfl dN (fun _ => true) (fun q => dN (one.getD q 0)) p fun q hq => by
      have hl := hp q hq
      have hg : one.getD q 0 = one[q] := by simp [hl]
      rw [hg]
      constructor
      · simp -implicitDefEqProofs []
      · intro _
        simp -implicitDefEqProofs [e_l_rests_1, hl, tN]
  rw [filter_tt] at h
  rw [h, apA, List.map_map]; rfl
theorem ap_comp3 (e : ME) (he : e = .sub (.slot 0) (.slot 3)) {one : List Nat} (hone : ∀ x, x ∈ one → x < one.length) {p : List Nat} (hp : ∀ x, x ∈ p → x < one.length) (x1 x2 : Option D) :
    compL (fun s => (evTo G W .none s).noRz) (fun s => (ev G W false e s).noRz) 3 (p.map dN) [some (tN one), x1, x2, none] = .ok ((apA one p).map dN) [some (tN one), x1, x2, none] := by
  subst he
  have h := compL_map (f := fun s => (evTo G W .none s).noRz) (g := fun s => (ev G W false (.sub (.slot 0) (.slot 3)) s).noRz) (own := 3)
    (s := [some (tN one), x1, x2, none]) rfl dN (fun _ => true) (fun q => dN (one.getD q 0)) p fun q hq => by
      have hl := hp q hq
      have hg : one.getD q 0 = one[q] := by simp [hl]
      rw [hg]
      constructor
      · simp -implicitDefEqProofs []
      · intro _
        simp -implicitDefEqProofs [hl, tN]
  rw [filter_tt] at h
  rw [h, apA, List.map_map]; rfl
def RestPOk (g : Callee) : Prop := ∀ one : List Nat, one.length ≤ 4 → (∀ x, x ∈ one → x < one.length) → g [tN one] = .ok (.bl (restB one)) []
theorem rests_ok : RestPOk (runF G W f_l_rests) := by
  intro one hl h1
  have key := for_find (st := fun s => exs G W [] b_l_rests_2 s) (g := .name 2) (.bl true) dN (List.range (one.length + 1)) (fun k => decide (pwA one (k + 1) = pwA one k))
    (fun k s => ∃ y2 y3, s = [some (tN one), some (tN (pwA one k)), y2, y3, none])
    (s := [some (tN one), some (tN one), none, none, none]) ⟨none, none, rfl⟩ fun k hk s hs => by
      obtain ⟨y2, y3, rfl⟩ := hs
      have hgk : (List.range (one.length + 1))[k]'hk = k := by simp
      rw [hgk]
      have hpl := pw_lt h1 k
      have hc := ap_comp (G := G) (W := W) h1 hpl (some (tN (pwA one k))) (some (.int (k : Nat))) y3
      have hap : apA one (pwA one k) = pwA one (k + 1) := rfl
      rw [hap] at hc
      have hlen : (pwA one k).length ≤ 16777216 := by rw [pw_len]; omega
      have heq : eqD (.tup ((pwA one (k + 1)).map dN)) (.tup ((pwA one k).map dN)) = decide (pwA one (k + 1) = pwA one k) := eqD_tupm (f := dN) _ _
      have hp1 : plain (.tup ((pwA one (k + 1)).map dN)) = true := plain_tupm (f := dN) _
      have hp2 : plain (.tup ((pwA one k).map dN)) = true := plain_tupm (f := dN) _
      generalize pwA one (k + 1) = q at *
      generalize pwA one k = p at *
      simp only [tN_ap] at hc ⊢
      generalize one.map dN = O1 at *
      by_cases hqp : q = p
      · rw [decide_eq_true hqp] at heq
        try simp at hc
        simp -implicitDefEqProofs [b_l_rests_2, hc, hlen, heq, hp1, hp2, hqp]
      · rw [decide_eq_false hqp] at heq
        try simp at hc
        simp -implicitDefEqProofs [b_l_rests_2, hc, hlen, heq, hp1, hp2, hqp]
  rw [restB]
  have hz : one.length + 1 < 1000000 := by omega
  have hz2 : one.length ≤ 16777216 := by omega
  have hcast : (one.length : Int) + 1 = ((one.length + 1 : Nat) : Int) := by omega
  generalize hn : one.length + 1 = n at *
  cases hb : (List.range n).any fun k => decide (pwA one (k + 1) = pwA one k)
  · rw [if_neg (by rw [hb]; decide)] at key
    obtain ⟨s', e, y2, y3, rfl⟩ := key
    simp only [tN_ap] at e ⊢
    try simp at e
    simp -implicitDefEqProofs [runF, f_l_rests_eq, g_l_rests, hz, hz2, hcast, e]
  · rw [if_pos hb] at key
    obtain ⟨s', e⟩ := key
    simp only [tN_ap] at e ⊢
    try simp at e
    simp -implicitDefEqProofs [runF, f_l_rests_eq, g_l_rests, hz, hz2, hcast, e]
theorem first_of {P : Nat → Prop} : ∀ N, (∃ j, j ≤ N ∧ P j) → ∃ j, j ≤ N ∧ P j ∧ ∀ k, k < j → ¬ P k
  | 0, ⟨j, hj, h⟩ => ⟨j, hj, h, fun k hk => by omega⟩
  | N + 1, ⟨j, hj, h⟩ => by
    by_cases q : ∃ j, j ≤ N ∧ P j
    · obtain ⟨j, h1, h2, h3⟩ := first_of N q
      exact ⟨j, by omega, h2, h3⟩
    · exact ⟨j, hj, h, fun k hk hp => q ⟨k, by omega, hp⟩⟩
theorem four_le {n : Nat} (h : n ≤ 4) : n ^ n ≤ 256 := by
  match n, h with
  | 0, _ => decide
  | 1, _ => decide
  | 2, _ => decide
  | 3, _ => decide
  | 4, _ => decide
theorem pw_rep {one : List Nat} (hl : one.length ≤ 4) (h1 : ∀ x, x ∈ one → x < one.length) : ∃ j, j ≤ 256 ∧ pwA one j ∈ (List.range j).map (pwA one) ∧ ∀ k, k < j → ¬ pwA one k ∈ (List.range k).map (pwA one) := by
  refine first_of 256 (Classical.byContradiction fun hn => ?_)
  have hnd : ((List.range 257).map (pwA one)).Nodup := by
    refine List.pairwise_iff_getElem.mpr fun i j hi hj hij e => hn ⟨j, by simp at hj; omega, ?_⟩
    simp only [List.getElem_map, List.getElem_range] at e
    rw [← e]
    exact List.mem_map_of_mem (List.mem_range.mpr hij)
  have := nodup_le (m := layN one.length one.length) hnd fun p hp => by
    obtain ⟨k, _, rfl⟩ := List.mem_map.mp hp
    exact (lay_mem _ _).mpr ⟨pw_len one k, pw_lt h1 k⟩
  rw [lay_len] at this
  have := four_le hl
  simp at *
  omega
def SetlOk (g : Callee) : Prop := ∀ one : List Nat, one.length ≤ 4 → (∀ x, x ∈ one → x < one.length) → g [tN one] = .ok (.bl (restB one)) []
def seenP (one : List Nat) (k : Nat) : D := .dic true 2 (((List.range k).map (pwA one)).map tN) (List.replicate k (.bl true))
theorem settles_ok (hW : 1000 < W) : SetlOk (runF G W f_settles) := by
  intro one hl h1
  obtain ⟨j, hj, hin, hmin⟩ := pw_rep hl h1
  have loop := whileL_inv (c := fun s => evT G W t_settles_2 s) (st := fun s => exs G W [] b_settles_3 s)
    (I := fun m st => ∃ k, k + m = j ∧ st = [some (tN one), some (seenP one k), some (tN (pwA one k)), none])
    (Q := fun st => st = [some (tN one), some (seenP one j), some (tN (pwA one j)), none])
    (fun m st hI => by
      obtain ⟨k, hkm, rfl⟩ := hI
      have hmd : memD (tN (pwA one k)) (((List.range k).map (pwA one)).map tN) = if pwA one k ∈ (List.range k).map (pwA one) then true else false := by
        rw [memD_e en2]; split <;> simp_all
      have hko := kOk2_tN (pwA one k)
      by_cases hm : m = 0
      · subst hm
        have hk : k = j := by omega
        subst hk
        rw [if_pos hin] at hmd
        refine .inl ⟨_, ?_, rfl⟩
        simp only [seenP, tN_ap] at hmd hko ⊢
        generalize ((List.range k).map (pwA one)).map (fun l => D.tup (l.map dN)) = KS at *
        simp only [show (tN : List Nat → D) = fun l => D.tup (l.map dN) from rfl] at *
        generalize ((List.range k).map (pwA one)).map (fun l => D.tup (l.map dN)) = KS at *
        try simp at hmd hko
        simp -implicitDefEqProofs [t_settles_2, hmd, hko]
      · have hk : k < j := by omega
        have hni := hmin k hk
        rw [if_neg hni] at hmd
        have hc := ap_comp3 (G := G) (W := W) e_settles_1 rfl h1 (pw_lt h1 k) (some (seenP one (k + 1))) (some (tN (pwA one k)))
        have hap : apA one (pwA one k) = pwA one (k + 1) := rfl
        rw [hap] at hc
        have hdp : dput 2 (((List.range k).map (pwA one)).map tN) (List.replicate k (.bl true)) (tN (pwA one k)) (.bl true) = seenP one (k + 1) := by
          rw [dput, hmd, if_neg (by decide), seenP, List.range_succ, List.map_append, List.map_append, List.replicate_succ']; rfl
        have hlen : (pwA one k).length ≤ 16777216 := by rw [pw_len]; omega
        have hlk : (((List.range k).map (pwA one)).map tN).length < 16777216 := by simp; omega
        refine .inr ⟨[some (tN one), some (seenP one k), some (tN (pwA one k)), none], [some (tN one), some (seenP one (k + 1)), some (tN (pwA one (k + 1))), none], m - 1, ?_, .inl ?_, ⟨k + 1, by omega, rfl⟩, by omega⟩
        · simp only [seenP]
          generalize ((List.range k).map (pwA one)).map tN = KS at *
          simp only [tN_ap] at hmd hko ⊢
          try simp at hmd hko
          simp -implicitDefEqProofs [t_settles_2, hmd, hko]
        · generalize hS2 : seenP one (k + 1) = S2 at *
          simp only [seenP]
          generalize ((List.range k).map (pwA one)).map tN = KS at *
          generalize List.replicate k (D.bl true) = VS at *
          generalize pwA one (k + 1) = q at *
          generalize pwA one k = p at *
          simp only [tN_ap] at hmd hko hc hdp ⊢
          generalize one.map dN = O1 at *
          try simp at hmd hko hc hdp
          simp -implicitDefEqProofs [b_settles_3, hmd, hko, hc, hdp, hlen, hlk, line, still, sizeLine_eq])
  obtain ⟨s', e1, rfl⟩ := loop W j (s := [some (tN one), some (.dic true 2 [] []), some (tN one), none]) ⟨0, by omega, rfl⟩ (by omega)
  have hc := ap_comp3 (G := G) (W := W) e_settles_4 rfl h1 (pw_lt h1 j) (some (seenP one j)) (some (tN (pwA one j)))
  have hap : apA one (pwA one j) = pwA one (j + 1) := rfl
  rw [hap] at hc
  obtain ⟨i, hi, hij⟩ := List.mem_map.mp hin
  have hr := rest_iff h1 (List.mem_range.mp hi) hij
  have hres : restB one = decide (pwA one (j + 1) = pwA one j) := by
    cases hb : restB one
    · rw [hb] at hr
      exact (decide_eq_false fun z => absurd (hr.mp z) (by decide)).symm
    · rw [hb] at hr
      exact (decide_eq_true (hr.mpr rfl)).symm
  have heq : eqD (.tup ((pwA one (j + 1)).map dN)) (.tup ((pwA one j).map dN)) = decide (pwA one (j + 1) = pwA one j) := eqD_tupm (f := dN) _ _
  have hp1 : plain (.tup ((pwA one (j + 1)).map dN)) = true := plain_tupm (f := dN) _
  have hp2 : plain (.tup ((pwA one j).map dN)) = true := plain_tupm (f := dN) _
  have hlen : (pwA one j).length ≤ 16777216 := by rw [pw_len]; omega
  rw [hres]
  generalize decide (pwA one (j + 1) = pwA one j) = c at *
  generalize pwA one (j + 1) = q at *
  generalize pwA one j = p at *
  generalize seenP one j = SD at *
  simp only [tN_ap] at e1 hc ⊢
  generalize one.map dN = O1 at *
  try simp at e1 hc
  simp -implicitDefEqProofs [runF, f_settles_eq, g_settles, e1, hc, heq, hp1, hp2, hlen]
end
/-! Abm145: tables of actions -/
section
variable {G : Env0A} {W : Nat} {z s : Nat} {fs : List Nat} {R : List (List Nat)}
def stA (R : List (List Nat)) (p : List Nat) (a : Nat) : List Nat := p.map fun x => dlt R x a
def UA (R : List (List Nat)) (p : List Nat) : Prop := p.length = R.length ∧ ∀ x, x ∈ p → x < R.length
def tab (R : List (List Nat)) (z : Nat) : List PW := xW (stA R) z (List.range R.length) 401
theorem stA_U (hR : Aut z s fs R) {p : List Nat} {a : Nat} (h : UA R p) (ha : a < z) : UA R (stA R p a) := by
  refine ⟨by rw [stA, List.length_map]; exact h.1, fun x hx => ?_⟩
  obtain ⟨y, hy, rfl⟩ := List.mem_map.mp hx
  exact dlt_lt hR (h.2 y hy) ha
theorem first_U : UA R (List.range R.length) := ⟨by simp, fun x hx => List.mem_range.mp hx⟩
theorem tab_done (hR : Aut z s fs R) (h4 : R.length ≤ 4) : ∃ Fd, ExDone (stA R) z (List.range R.length) Fd ∧ Fd.length ≤ 256 ∧ ∀ k p, p ∈ xpl (stA R) z (List.range R.length) k → UA R p := by
  have hsub : ∀ k p, p ∈ xpl (stA R) z (List.range R.length) k → UA R p := xpl_sub (U := UA R) first_U fun x a hx ha => stA_U hR hx ha
  have hN : ∀ k, (xpl (stA R) z (List.range R.length) k).length ≤ 256 := fun k => by
    have := nodup_le (m := layN R.length R.length) (xpl_nodup k) fun p hp => (lay_mem _ _).mpr (hsub k p hp)
    rw [lay_len] at this
    have := four_le h4
    omega
  exact ⟨_, (xpl_done hN).1, (xpl_done hN).2, hsub⟩
theorem addW_wl (st : List Nat → Nat → List Nat) (q : PW) (N : Nat) (hq : q.1.length ≤ N) : ∀ (z : Nat) (l : List PW), (∀ p, p ∈ l → p.1.length ≤ N + 1) → ∀ p, p ∈ addW st q z l → p.1.length ≤ N + 1
  | 0, l, hl => hl
  | z + 1, l, hl => by
    intro p hp
    simp only [addW] at hp
    split at hp
    · exact addW_wl st q N hq z l hl p hp
    · rcases List.mem_append.mp hp with h | h
      · exact addW_wl st q N hq z l hl p h
      · rw [List.mem_singleton.mp h]; simp; omega
theorem xW_wl (st : List Nat → Nat → List Nat) (z : Nat) (s0 : List Nat) : ∀ k p, p ∈ xW st z s0 k → p.1.length ≤ k
  | 0, p, hp => by rw [List.mem_singleton.mp hp]; simp
  | k + 1, p, hp => by
    simp only [xW] at hp
    cases e : (xW st z s0 k)[k]? with
    | none => rw [e] at hp; have := xW_wl st z s0 k p hp; omega
    | some q =>
      rw [e] at hp
      exact addW_wl st q k (xW_wl st z s0 k q (List.mem_of_getElem? e)) z _ (fun p hp => by have := xW_wl st z s0 k p hp; omega) p hp
def eP (q : PW) : D := .tup [.tup (q.1.map dN), .tup (q.2.map dN)]
def sD (l : List PW) : D := .dic true 2 ((l.map Prod.snd).map tN) ((l.map Prod.snd).map fun _ => .bl true)
theorem dput_sD {l : List PW} {w p : List Nat} (h : ¬ p ∈ l.map Prod.snd) : dput 2 ((l.map Prod.snd).map tN) ((l.map Prod.snd).map fun _ => .bl true) (tN p) (.bl true) = sD (l ++ [(w, p)]) := by
  rw [dput, memD_e en2, if_neg (by simpa using h), sD]
  simp
theorem memP (p : List Nat) (l : List PW) : memD (tN p) ((l.map Prod.snd).map tN) = if p ∈ l.map Prod.snd then true else false := by
  rw [memD_e en2]
  split <;> simp_all
theorem row_comp (e : ME) (he : e = .sub (.sub (.slot 3) (.slot 10)) (.slot 8)) (hR : Aut z s fs R) {p : List Nat} (hp : UA R p) {a : Nat} (ha : a < z) (x0 x1 x2 x4 x5 x6 x7 x9 : Option D) :
    compL (fun s => (evTo G W .none s).noRz) (fun s => (ev G W false e s).noRz) 10 (p.map dN) [x0, x1, x2, some (.tup (R.map tN)), x4, x5, x6, x7, some (.int a), x9, none] = .ok ((stA R p a).map dN) [x0, x1, x2, some (.tup (R.map tN)), x4, x5, x6, x7, some (.int a), x9, none] := by
  subst he
  have h := compL_map (f := fun s => (evTo G W .none s).noRz) (g := fun s => (ev G W false (.sub (.sub (.slot 3) (.slot 10)) (.slot 8)) s).noRz) (own := 10)
    (s := [x0, x1, x2, some (.tup (R.map tN)), x4, x5, x6, x7, some (.int a), x9, none]) rfl dN (fun _ => true) (fun q => dN (dlt R q a)) p fun q hq => by
      have hql := hp.2 q hq
      obtain ⟨h1, h2⟩ := dlt_get hR hql ha
      rw [h2]
      generalize hRr : R[q] = r at *
      have hRq2 : R[q]? = some r := by rw [List.getElem?_eq_getElem hql, hRr]
      constructor
      · simp -implicitDefEqProofs []
      · intro _
        simp -implicitDefEqProofs [hql, hRq2, hRr, h1, tN]
  rw [filter_tt] at h
  rw [h, stA, List.map_map]; rfl
/-- the table's inner loop -/
theorem tab_inner (hR : Aut z s fs R) (hz : z ≤ 900) {l : List PW} {k : Nat} {q : PW} (hq : l[k]? = some q) (hU : UA R q.2) (h4 : R.length ≤ 4) (hw : q.1.length ≤ 1000) (hl : (addW (stA R) q z l).length ≤ 300) (x0 x1 x2 x4 y8 y9 : Option D) :
    ∃ y8' y9', forL (fun s => exs G W [] b_l_table_2 s) (.name 8) ((List.range z).map dN) [x0, x1, x2, some (.tup (R.map tN)), x4, some (.lst true (l.map eP)), some (sD l), some (.int k), y8, y9, none] =
      .nx [x0, x1, x2, some (.tup (R.map tN)), x4, some (.lst true ((addW (stA R) q z l).map eP)), some (sD (addW (stA R) q z l)), some (.int k), y8', y9', none] := by
  obtain ⟨s', e, y8', y9', rfl⟩ := for_st (st := fun s => exs G W [] b_l_table_2 s) (g := .name 8) dN (List.range z)
    (fun j st => ∃ y8 y9, st = [x0, x1, x2, some (.tup (R.map tN)), x4, some (.lst true ((addW (stA R) q j l).map eP)), some (sD (addW (stA R) q j l)), some (.int k), y8, y9, none])
    (s := [x0, x1, x2, some (.tup (R.map tN)), x4, some (.lst true (l.map eP)), some (sD l), some (.int k), y8, y9, none]) ⟨y8, y9, rfl⟩ fun j hj st hst => by
      obtain ⟨y8, y9, rfl⟩ := hst
      have hgj : (List.range z)[j]'hj = j := by simp
      have hjz : j < z := by simpa using hj
      rw [hgj]
      have hpre := addW_pre (st := stA R) q j l
      have hml : (addW (stA R) q j l).length ≤ 300 := Nat.le_trans (addW_pre2 q l (Nat.le_of_lt hjz)).length_le hl
      obtain ⟨hkl, hkq⟩ := List.getElem?_eq_some_iff.mp hq
      have hkm : k < (addW (stA R) q j l).length := Nat.lt_of_lt_of_le hkl hpre.length_le
      have hMk : ∀ h : k < ((addW (stA R) q j l).map eP).length, ((addW (stA R) q j l).map eP)[k]'h = eP q := fun h => by
        rw [List.getElem_map]
        have h1 := List.prefix_iff_getElem?.mp hpre k hkl
        rw [List.getElem?_eq_getElem hkm, hkq] at h1
        rw [Option.some.inj h1]
      have hadd : addW (stA R) q (j + 1) l = if stA R q.2 j ∈ (addW (stA R) q j l).map Prod.snd then addW (stA R) q j l else addW (stA R) q j l ++ [(q.1 ++ [j], stA R q.2 j)] := rfl
      have hMl : ((addW (stA R) q j l).map eP).length = (addW (stA R) q j l).length := List.length_map ..
      have hKl : (((addW (stA R) q j l).map Prod.snd).map tN).length = (addW (stA R) q j l).length := by simp
      have hmem := memP (stA R q.2 j) (addW (stA R) q j l)
      have hko := kOk2_tN (stA R q.2 j)
      have hc := row_comp (G := G) (W := W) e_l_table_1 rfl hR hU hjz x0 x1 x2 x4 (some (.lst true ((addW (stA R) q j l).map eP))) (some (sD (addW (stA R) q j l))) (some (.int k)) y9
      have hpl : q.2.length ≤ 16777216 := by have := hU.1; omega
      have hsl : (stA R q.2 j).length ≤ 16777216 := by rw [stA, List.length_map]; exact hpl
      have hwl : q.1.length + 1 ≤ 16777216 := by omega
      by_cases hin : stA R q.2 j ∈ (addW (stA R) q j l).map Prod.snd
      · rw [if_pos hin] at hadd hmem
        rw [hadd]
        refine ⟨[x0, x1, x2, some (.tup (R.map tN)), x4, some (.lst true ((addW (stA R) q j l).map eP)), some (sD (addW (stA R) q j l)), some (.int k), some (.int (j : Nat)), y9, none], [x0, x1, x2, some (.tup (R.map tN)), x4, some (.lst true ((addW (stA R) q j l).map eP)), some (sD (addW (stA R) q j l)), some (.int k), some (.int (j : Nat)), some (tN (stA R q.2 j)), none], rfl, ?_, _, _, rfl⟩
        simp only [sD] at hc ⊢
        generalize ((addW (stA R) q j l).map Prod.snd).map tN = KS at *
        generalize (((addW (stA R) q j l).map Prod.snd).map fun _ => D.bl true) = VS at *
        generalize (addW (stA R) q j l).map eP = M at *
        generalize stA R q.2 j = p' at *
        simp only [eP, tN_ap] at hMk hmem hko ⊢
        generalize R.map tN = RT at *
        try simp at hc hmem hko
        simp -implicitDefEqProofs [b_l_table_2, hMl, hkm, hMk, hc, hmem, hko, hpl, hsl]
      · rw [if_neg hin] at hadd hmem
        rw [hadd]
        have hdp := dput_sD (w := q.1 ++ [j]) hin
        refine ⟨[x0, x1, x2, some (.tup (R.map tN)), x4, some (.lst true ((addW (stA R) q j l).map eP)), some (sD (addW (stA R) q j l)), some (.int k), some (.int (j : Nat)), y9, none], [x0, x1, x2, some (.tup (R.map tN)), x4, some (.lst true ((addW (stA R) q j l ++ [(q.1 ++ [j], stA R q.2 j)]).map eP)), some (sD (addW (stA R) q j l ++ [(q.1 ++ [j], stA R q.2 j)])), some (.int k), some (.int (j : Nat)), some (tN (stA R q.2 j)), none], rfl, ?_, _, _, rfl⟩
        generalize sD (addW (stA R) q j l ++ [(q.1 ++ [j], stA R q.2 j)]) = S2 at *
        rw [List.map_append]
        simp only [sD] at hc ⊢
        have hm1 : (addW (stA R) q j l).length < 16777216 := by omega
        have hm2 : (((addW (stA R) q j l).map Prod.snd).map fun _ => D.bl true).length = (addW (stA R) q j l).length := by simp
        generalize ((addW (stA R) q j l).map Prod.snd).map tN = KS at *
        generalize (((addW (stA R) q j l).map Prod.snd).map fun _ => D.bl true) = VS at *
        generalize (addW (stA R) q j l).map eP = M at *
        generalize stA R q.2 j = p' at *
        simp only [eP, tN_ap] at hMk hmem hko hdp ⊢
        generalize R.map tN = RT at *
        try simp at hc hmem hko hdp
        simp -implicitDefEqProofs [b_l_table_2, hMl, hKl, hkm, hMk, hc, hmem, hko, hpl, hsl, hdp, hm1, hwl, line, still, sizeLine_eq, eP]
  rw [List.length_range] at e
  exact ⟨y8', y9', e⟩
def TabOk (g : Callee) : Prop := ∀ (z s : Nat) (fs : List Nat) (R : List (List Nat)), Aut z s fs R → R.length ≤ 4 → z ≤ 900 → g [autS false s fs R] = .ok (.lst true ((tab (lstR R fs z s) z).map eP)) []
theorem tab_ok (hS : Has G 64 SmallOk) : TabOk (runF G W f_l_table) := by
  intro z s fs R0 hR0 hn hz
  obtain ⟨g, hg, hS⟩ := hS
  have e1 := hS false z s fs R0 hR0 (by omega) (by omega)
  have hR := lst_aut hR0
  have hlen := lstR_le (s := s) hR0
  generalize lstF R0 fs z s = f1 at *
  generalize lstR R0 fs z s = R at *
  have h4 : R.length ≤ 4 := by omega
  obtain ⟨Fd, hD, hFl, hU⟩ := tab_done hR h4
  have hn0 : 0 < R.length := hR.st
  have hr0 : (R[0]).length = z := (hR.row _ (List.getElem_mem hn0)).1
  have hxl : ∀ k, (xW (stA R) z (List.range R.length) k).length ≤ 256 := fun k => by
    by_cases hk : Fd.length ≤ k
    · rw [xW_end hD hk, xW_len, (hD.at_ 0).1]; exact hFl
    · have := (xpl_pre (st := stA R) (z := z) (s0 := List.range R.length) (show k ≤ Fd.length by omega)).length_le
      rw [(hD.at_ 0).1] at this
      rw [xW_len]; omega
  obtain ⟨s', e2, y7, y8, y9, rfl⟩ := for_st (st := fun s => exs G W [] b_l_table_3 s) (g := .name 7) dN (List.range 401)
    (fun k st => ∃ y7 y8 y9, st = [some (autS false s fs R0), some (.int 0), some (.tup (f1.map dN)), some (.tup (R.map tN)), some (.tup ((List.range R.length).map dN)), some (.lst true ((xW (stA R) z (List.range R.length) k).map eP)), some (sD (xW (stA R) z (List.range R.length) k)), y7, y8, y9, none])
    (s := [some (autS false s fs R0), some (.int 0), some (.tup (f1.map dN)), some (.tup (R.map tN)), some (.tup ((List.range R.length).map dN)), some (.lst true [eP ([], List.range R.length)]), some (sD [([], List.range R.length)]), none, none, none, none]) ⟨none, none, none, rfl⟩ fun k hk st hst => by
      obtain ⟨y7, y8, y9, rfl⟩ := hst
      have hgk : (List.range 401)[k]'hk = k := by simp
      have hk4 : k < 401 := by simpa using hk
      rw [hgk]
      have hxk := hxl k
      have hML : ((xW (stA R) z (List.range R.length) k).map eP).length = (xW (stA R) z (List.range R.length) k).length := List.length_map ..
      have hlT : (R.map tN).length = R.length := List.length_map ..
      have hRT : ∀ h : 0 < (R.map tN).length, (R.map tN)[0]'h = .tup (R[0].map dN) := fun h => by simp [tN]
      have hz1 : z < 1000000 := by omega
      have hz2 : z ≤ 16777216 := by omega
      have h400 : (((xW (stA R) z (List.range R.length) k).length : Nat) : Int) ≤ 400 := by omega
      cases hq : (xW (stA R) z (List.range R.length) k)[k]? with
      | none =>
        have hs : xW (stA R) z (List.range R.length) (k + 1) = xW (stA R) z (List.range R.length) k := by simp only [xW, hq]
        rw [hs]
        have hkl : ¬ k < (xW (stA R) z (List.range R.length) k).length := fun h => by rw [List.getElem?_eq_getElem h] at hq; cases hq
        refine ⟨[some (autS false s fs R0), some (.int 0), some (.tup (f1.map dN)), some (.tup (R.map tN)), some (.tup ((List.range R.length).map dN)), some (.lst true ((xW (stA R) z (List.range R.length) k).map eP)), some (sD (xW (stA R) z (List.range R.length) k)), some (.int (k : Nat)), y8, y9, none], [some (autS false s fs R0), some (.int 0), some (.tup (f1.map dN)), some (.tup (R.map tN)), some (.tup ((List.range R.length).map dN)), some (.lst true ((xW (stA R) z (List.range R.length) k).map eP)), some (sD (xW (stA R) z (List.range R.length) k)), some (.int (k : Nat)), y8, y9, none], rfl, ?_, _, _, _, rfl⟩
        generalize sD (xW (stA R) z (List.range R.length) k) = S1 at *
        generalize (xW (stA R) z (List.range R.length) k).map eP = M at *
        generalize (List.range R.length).map dN = RN at *
        generalize R.map tN = RT at *
        have hkl2 : ¬ k < M.length := by rw [hML]; exact hkl
        have hMz : M.length ≤ 16777216 := by omega
        simp -implicitDefEqProofs [b_l_table_3, hkl2, hMz]
      | some q =>
        have hs : xW (stA R) z (List.range R.length) (k + 1) = addW (stA R) q z (xW (stA R) z (List.range R.length) k) := by simp only [xW, hq]
        have hxk1 := hxl (k + 1)
        have hqm := List.mem_of_getElem? hq
        have hUq : UA R q.2 := hU k q.2 (by rw [← xW_snd]; exact List.mem_map_of_mem hqm)
        have hwq := xW_wl _ _ _ k q hqm
        obtain ⟨hkl, _⟩ := List.getElem?_eq_some_iff.mp hq
        obtain ⟨y8', y9', e3⟩ := tab_inner (G := G) (W := W) hR hz hq hUq h4 (by omega) (by rw [← hs]; omega) (some (autS false s fs R0)) (some (.int 0)) (some (.tup (f1.map dN))) (some (.tup ((List.range R.length).map dN))) y8 y9
        rw [← hs] at e3
        refine ⟨[some (autS false s fs R0), some (.int 0), some (.tup (f1.map dN)), some (.tup (R.map tN)), some (.tup ((List.range R.length).map dN)), some (.lst true ((xW (stA R) z (List.range R.length) k).map eP)), some (sD (xW (stA R) z (List.range R.length) k)), some (.int (k : Nat)), y8, y9, none], [some (autS false s fs R0), some (.int 0), some (.tup (f1.map dN)), some (.tup (R.map tN)), some (.tup ((List.range R.length).map dN)), some (.lst true ((xW (stA R) z (List.range R.length) (k + 1)).map eP)), some (sD (xW (stA R) z (List.range R.length) (k + 1))), some (.int (k : Nat)), y8', y9', none], rfl, ?_, _, _, _, rfl⟩
        have hM1 : (R[0].map dN).length = z := by rw [List.length_map, hr0]
        generalize sD (xW (stA R) z (List.range R.length) (k + 1)) = S2 at *
        generalize (xW (stA R) z (List.range R.length) (k + 1)).map eP = M2 at *
        generalize sD (xW (stA R) z (List.range R.length) k) = S1 at *
        generalize (xW (stA R) z (List.range R.length) k).map eP = M at *
        generalize (List.range R.length).map dN = RN at *
        generalize R[0].map dN = R0r at *
        generalize autS false s fs R0 = A0 at *
        generalize R.map tN = RT at *
        have hkl2 : k < M.length := by rw [hML]; exact hkl
        have hMz : M.length ≤ 16777216 := by omega
        have hM4 : (M.length : Int) ≤ 400 := by omega
        try simp at e3
        simp -implicitDefEqProofs [b_l_table_3, hkl2, hMz, hM4, hlT, hn0, hRT, hM1, hz1, hz2, e3]
  rw [List.length_range] at e2
  have htr : bi1 .trng (.int (R.length : Nat)) = some (.tup ((List.range R.length).map dN)) := by
    have h1 : inR (R.length : Nat) = true := by simp only [inR, Nat.ble_eq]; omega
    have h2 : ((R.length : Nat) : Int) ≤ 16777216 := by omega
    show (if inR (R.length : Nat) && decide (((R.length : Nat) : Int) ≤ 16777216) then some (D.tup ((List.range ((R.length : Nat) : Int).toNat).map fun (i : Nat) => D.int i)) else none) = _
    rw [h1, decide_eq_true h2]; rfl
  have hlT : (R.map tN).length = R.length := List.length_map ..
  have hRz : R.length ≤ 16777216 := by omega
  have hko := kOk2_tN (List.range R.length)
  have hsd : sD [([], List.range R.length)] = .dic true 2 [.tup ((List.range R.length).map dN)] [.bl true] := rfl
  have hep : eP ([], List.range R.length) = .tup [.tup [], .tup ((List.range R.length).map dN)] := rfl
  have hf1 : frzs (R.map tN) = R.map tN := frzs_mapE tN tN (fun _ => rfl) R
  have hf2 : frzs ((List.range R.length).map dN) = (List.range R.length).map dN := frzs_dN _
  show _ = Res.ok (.lst true ((xW (stA R) z (List.range R.length) 401).map eP)) []
  rw [hsd, hep] at e2
  generalize sD (xW (stA R) z (List.range R.length) 401) = S2 at *
  generalize (xW (stA R) z (List.range R.length) 401).map eP = M at *
  simp only [tN_ap] at hko
  generalize (List.range R.length).map dN = RN at *
  simp only [autS] at e1 e2 ⊢
  generalize sqR false R0 = SR0 at *
  generalize sqN false fs = SF at *
  generalize R.map tN = RT at *
  try simp at e1 e2 hko
  simp -implicitDefEqProofs [runF, f_l_table_eq, g_l_table, hg, e1, htr, hlT, hRz, hko, e2, hf1, hf2, (by decide : inR 401 = true)]
end
/-! Abm146: actions -/
section
variable {G : Env0A} {W : Nat} {z s : Nat} {fs : List Nat} {R : List (List Nat)}
theorem row_comp2 (hR : Aut z s fs R) {f1 : List Nat} {p : List Nat} (hp : UA R p) {a : Nat} (ha : a < z) (x0 x1 x3 x4 x5 x6 x8 x10 : Option D) :
    compL (fun s => (evTo G W .none s).noRz) (fun s => (ev G W false e_actions_1 s).noRz) 9 (p.map dN) [x0, x1, some (auD true z 0 f1 R), x3, x4, x5, x6, some (.int a), x8, none, x10] = .ok ((stA R p a).map dN) [x0, x1, some (auD true z 0 f1 R), x3, x4, x5, x6, some (.int a), x8, none, x10] := by
  have h := compL_map (f := fun s => (evTo G W .none s).noRz) (g := fun s => (ev G W false e_actions_1 s).noRz) (own := 9)
    (s := [x0, x1, some (auD true z 0 f1 R), x3, x4, x5, x6, some (.int a), x8, none, x10]) rfl dN (fun _ => true) (fun q => dN (dlt R q a)) p fun q hq => by
      have hql := hp.2 q hq
      obtain ⟨h1, h2⟩ := dlt_get hR hql ha
      rw [h2]
      generalize hRr : R[q] = r at *
      have hRq2 : R[q]? = some r := by rw [List.getElem?_eq_getElem hql, hRr]
      simp only [auD]
      constructor
      · simp -implicitDefEqProofs []
      · intro _
        simp -implicitDefEqProofs [e_actions_1, hql, hRq2, hRr, h1, tN]
  rw [filter_tt] at h
  rw [h, stA, List.map_map]; rfl
theorem act_inner (hR : Aut z s fs R) {f1 : List Nat} (hz : z ≤ 900) {l : List PW} {k : Nat} {q : PW} (hn : ((addW (stA R) q z l).map Prod.snd).Nodup) (hq : l[k]? = some q) (hU : UA R q.2) (h4 : R.length ≤ 4) (hw : q.1.length ≤ 1000) (hl : (addW (stA R) q z l).length ≤ 300) (x0 x1 x3 y7 y8 : Option D) :
    ∃ y7' y8', forL (fun s => exs G W [1] b_actions_2 s) (.name 7) ((List.range z).map dN) [x0, x1, some (auD true z 0 f1 R), x3, some (wD l), some (.lst true ((l.map Prod.snd).map tN)), some (.int k), y7, y8, none, none] =
      .nx [x0, x1, some (auD true z 0 f1 R), x3, some (wD (addW (stA R) q z l)), some (.lst true (((addW (stA R) q z l).map Prod.snd).map tN)), some (.int k), y7', y8', none, none] := by
  obtain ⟨s', e, y7', y8', rfl⟩ := for_st (st := fun s => exs G W [1] b_actions_2 s) (g := .name 7) dN (List.range z)
    (fun j st => ∃ y7 y8, st = [x0, x1, some (auD true z 0 f1 R), x3, some (wD (addW (stA R) q j l)), some (.lst true (((addW (stA R) q j l).map Prod.snd).map tN)), some (.int k), y7, y8, none, none])
    (s := [x0, x1, some (auD true z 0 f1 R), x3, some (wD l), some (.lst true ((l.map Prod.snd).map tN)), some (.int k), y7, y8, none, none]) ⟨y7, y8, rfl⟩ fun j hj st hst => by
      obtain ⟨y7, y8, rfl⟩ := hst
      have hgj : (List.range z)[j]'hj = j := by simp
      have hjz : j < z := by simpa using hj
      rw [hgj]
      have hpre := addW_pre (st := stA R) q j l
      have hml : (addW (stA R) q j l).length ≤ 300 := Nat.le_trans (addW_pre2 q l (Nat.le_of_lt hjz)).length_le hl
      obtain ⟨hkl, hkq⟩ := List.getElem?_eq_some_iff.mp hq
      have hkm : k < (addW (stA R) q j l).length := Nat.lt_of_lt_of_le hkl hpre.length_le
      have hkq2 : (addW (stA R) q j l)[k] = q := by
        have h1 := List.prefix_iff_getElem?.mp hpre k hkl
        rw [List.getElem?_eq_getElem hkm, hkq] at h1
        exact Option.some.inj h1
      have hMk : ∀ h : k < (((addW (stA R) q j l).map Prod.snd).map tN).length, (((addW (stA R) q j l).map Prod.snd).map tN)[k]'h = tN q.2 := fun h => by
        rw [List.getElem_map, List.getElem_map, hkq2]
      have hqm : (q.1, q.2) ∈ addW (stA R) q j l := by
        have := List.getElem_mem hkm
        rw [hkq2] at this; exact this
      have hdv := dval_pw (List.Pairwise.sublist ((addW_pre2 q l (show j ≤ z by omega)).map Prod.snd).sublist hn) (w := q.1) (p := q.2) hqm
      have hadd : addW (stA R) q (j + 1) l = if stA R q.2 j ∈ (addW (stA R) q j l).map Prod.snd then addW (stA R) q j l else addW (stA R) q j l ++ [(q.1 ++ [j], stA R q.2 j)] := rfl
      have hKl : (((addW (stA R) q j l).map Prod.snd).map tN).length = (addW (stA R) q j l).length := by simp
      have hmem := memP (stA R q.2 j) (addW (stA R) q j l)
      have hko := kOk2_tN (stA R q.2 j)
      have hkq0 := kOk2_tN q.2
      have hc := row_comp2 (G := G) (W := W) hR (f1 := f1) hU hjz x0 x1 x3 (some (wD (addW (stA R) q j l))) (some (.lst true (((addW (stA R) q j l).map Prod.snd).map tN))) (some (.int k)) y8 none
      have hpl : q.2.length ≤ 16777216 := by have := hU.1; omega
      have hsl : (stA R q.2 j).length ≤ 16777216 := by rw [stA, List.length_map]; exact hpl
      have hwl : q.1.length + 1 ≤ 16777216 := by omega
      by_cases hin : stA R q.2 j ∈ (addW (stA R) q j l).map Prod.snd
      · rw [if_pos hin] at hadd hmem
        rw [hadd]
        refine ⟨[x0, x1, some (auD true z 0 f1 R), x3, some (wD (addW (stA R) q j l)), some (.lst true (((addW (stA R) q j l).map Prod.snd).map tN)), some (.int k), some (.int (j : Nat)), y8, none, none], [x0, x1, some (auD true z 0 f1 R), x3, some (wD (addW (stA R) q j l)), some (.lst true (((addW (stA R) q j l).map Prod.snd).map tN)), some (.int k), some (.int (j : Nat)), some (tN (stA R q.2 j)), none, none], rfl, ?_, _, _, rfl⟩
        simp only [wD] at hc ⊢
        generalize ((addW (stA R) q j l).map Prod.snd).map tN = KS at *
        generalize ((addW (stA R) q j l).map Prod.fst).map tN = VS at *
        generalize stA R q.2 j = p' at *
        simp only [tN_ap] at hMk hmem hko ⊢
        generalize auD true z 0 f1 R = A1 at *
        try simp at hc hmem hko
        simp -implicitDefEqProofs [b_actions_2, hKl, hkm, hMk, hc, hmem, hko, hpl, hsl]
      · rw [if_neg hin] at hadd hmem
        rw [hadd]
        have hdp := dput_pw (w := q.1 ++ [j]) hin
        refine ⟨[x0, x1, some (auD true z 0 f1 R), x3, some (wD (addW (stA R) q j l)), some (.lst true (((addW (stA R) q j l).map Prod.snd).map tN)), some (.int k), some (.int (j : Nat)), y8, none, none], [x0, x1, some (auD true z 0 f1 R), x3, some (wD (addW (stA R) q j l ++ [(q.1 ++ [j], stA R q.2 j)])), some (.lst true (((addW (stA R) q j l ++ [(q.1 ++ [j], stA R q.2 j)]).map Prod.snd).map tN)), some (.int k), some (.int (j : Nat)), some (tN (stA R q.2 j)), none, none], rfl, ?_, _, _, rfl⟩
        generalize wD (addW (stA R) q j l ++ [(q.1 ++ [j], stA R q.2 j)]) = S2 at *
        rw [List.map_append, List.map_append]
        simp only [wD] at hc ⊢
        have hm1 : (addW (stA R) q j l).length < 16777216 := by omega
        have hm4 : ¬ (((addW (stA R) q j l).length : Nat) : Int) = 400 := by omega
        generalize ((addW (stA R) q j l).map Prod.snd).map tN = KS at *
        generalize ((addW (stA R) q j l).map Prod.fst).map tN = VS at *
        generalize stA R q.2 j = p' at *
        simp only [tN_ap] at hMk hmem hko hdp hdv hkq0 ⊢
        generalize auD true z 0 f1 R = A1 at *
        have hm6 : (addW (stA R) q j l).length ≤ 16777216 := by omega
        try simp at hc hmem hko hdp hdv hkq0
        simp -implicitDefEqProofs [b_actions_2, hKl, hkm, hMk, hc, hmem, hko, hpl, hsl, hdp, hdv, hkq0, hm1, hm4, hm6, hwl, line, still, sizeLine_eq, isDic, getK]
  rw [List.length_range] at e
  exact ⟨y7', y8', e⟩
theorem xl_le {Fd : List (List Nat)} (hD : ExDone (stA R) z (List.range R.length) Fd) (hFl : Fd.length ≤ 256) (k : Nat) : (xW (stA R) z (List.range R.length) k).length ≤ 256 := by
  by_cases hk : Fd.length ≤ k
  · rw [xW_end hD hk, xW_len, (hD.at_ 0).1]; exact hFl
  · have := (xpl_pre (st := stA R) (z := z) (s0 := List.range R.length) (show k ≤ Fd.length by omega)).length_le
    rw [(hD.at_ 0).1] at this
    rw [xW_len]; omega
def ActsOk (g : Callee) : Prop := ∀ (z s : Nat) (fs : List Nat) (R : List (List Nat)), Aut z s fs R → R.length ≤ 4 → z ≤ 900 → g [auD false z s fs R, .tbs] = .ok (.lst true ((tab (lstR R fs z s) z).map eP)) [.tbs]
theorem acts_ok (hW : 1000 < W) (hLe : Has G 284 LeastAutOk) : ActsOk (runF G W f_actions) := by
  intro z s fs R0 hR0 hn hz
  obtain ⟨g, hg, hLe⟩ := hLe
  have e1 := hLe z s fs R0 hR0 (by omega) (by omega)
  have hR := lst_aut hR0
  have hlen := lstR_le (s := s) hR0
  generalize lstF R0 fs z s = f1 at *
  generalize lstR R0 fs z s = R at *
  have h4 : R.length ≤ 4 := by omega
  obtain ⟨Fd, hD, hFl, hU⟩ := tab_done hR h4
  have hxl := xl_le hD hFl
  have loop := whileL_inv (c := fun s => evT G W t_actions_3 s) (st := fun s => exs G W [1] b_actions_4 s)
    (I := fun m st => ∃ k y7 y8, k + m = Fd.length ∧ st = [some (auD false z s fs R0), some .tbs, some (auD true z 0 f1 R), some (.tup ((List.range R.length).map dN)), some (wD (xW (stA R) z (List.range R.length) k)), some (.lst true (((xW (stA R) z (List.range R.length) k).map Prod.snd).map tN)), some (.int (k : Nat)), y7, y8, none, none])
    (Q := fun st => ∃ y6 y7 y8, st = [some (auD false z s fs R0), some .tbs, some (auD true z 0 f1 R), some (.tup ((List.range R.length).map dN)), some (wD (xW (stA R) z (List.range R.length) Fd.length)), some (.lst true (((xW (stA R) z (List.range R.length) Fd.length).map Prod.snd).map tN)), y6, y7, y8, none, none])
    (fun m st hI => by
      obtain ⟨k, y7, y8, hkm, rfl⟩ := hI
      have hKl : (((xW (stA R) z (List.range R.length) k).map Prod.snd).map tN).length = (xpl (stA R) z (List.range R.length) k).length := by rw [List.length_map, xW_snd]
      have hxk := hxl k
      rw [xW_len] at hxk
      by_cases hm : m = 0
      · subst hm
        have hk : k = Fd.length := by omega
        subst hk
        rw [(hD.at_ 0).1] at hKl hxk
        refine .inl ⟨[some (auD false z s fs R0), some .tbs, some (auD true z 0 f1 R), some (.tup ((List.range R.length).map dN)), some (wD (xW (stA R) z (List.range R.length) Fd.length)), some (.lst true (((xW (stA R) z (List.range R.length) Fd.length).map Prod.snd).map tN)), some (.int (Fd.length : Nat)), y7, y8, none, none], ?_, _, _, _, rfl⟩
        generalize ((xW (stA R) z (List.range R.length) Fd.length).map Prod.snd).map tN = KS at *
        have hKz : KS.length ≤ 16777216 := by omega
        have hKn : ¬ Fd.length < KS.length := by omega
        simp -implicitDefEqProofs [t_actions_3, hKz, hKn]
      · have hk : k < Fd.length := by omega
        have hlt := hD.lt k hk
        have hkx : k < (xW (stA R) z (List.range R.length) k).length := by rw [xW_len]; exact hlt
        have hq : (xW (stA R) z (List.range R.length) k)[k]? = some (xW (stA R) z (List.range R.length) k)[k] := List.getElem?_eq_getElem hkx
        generalize (xW (stA R) z (List.range R.length) k)[k] = q at *
        have hs : xW (stA R) z (List.range R.length) (k + 1) = addW (stA R) q z (xW (stA R) z (List.range R.length) k) := by simp only [xW, hq]
        have hxk1 := hxl (k + 1)
        have hqm := List.mem_of_getElem? hq
        have hUq : UA R q.2 := hU k q.2 (by rw [← xW_snd]; exact List.mem_map_of_mem hqm)
        have hwq := xW_wl _ _ _ k q hqm
        have hnd : ((xW (stA R) z (List.range R.length) (k + 1)).map Prod.snd).Nodup := by rw [xW_snd]; exact xpl_nodup _
        obtain ⟨y7', y8', e3⟩ := act_inner (G := G) (W := W) hR (f1 := f1) hz (by rw [← hs]; exact hnd) hq hUq h4 (by omega) (by rw [← hs]; omega) (some (auD false z s fs R0)) (some .tbs) (some (.tup ((List.range R.length).map dN))) y7 y8
        rw [← hs] at e3
        refine .inr ⟨[some (auD false z s fs R0), some .tbs, some (auD true z 0 f1 R), some (.tup ((List.range R.length).map dN)), some (wD (xW (stA R) z (List.range R.length) k)), some (.lst true (((xW (stA R) z (List.range R.length) k).map Prod.snd).map tN)), some (.int (k : Nat)), y7, y8, none, none],
          [some (auD false z s fs R0), some .tbs, some (auD true z 0 f1 R), some (.tup ((List.range R.length).map dN)), some (wD (xW (stA R) z (List.range R.length) (k + 1))), some (.lst true (((xW (stA R) z (List.range R.length) (k + 1)).map Prod.snd).map tN)), some (.int ((k + 1 : Nat) : Nat)), y7', y8', none, none], m - 1, ?_, .inl ?_, ⟨k + 1, _, _, by omega, rfl⟩, by omega⟩
        · generalize ((xW (stA R) z (List.range R.length) k).map Prod.snd).map tN = KS at *
          have hKz : KS.length ≤ 16777216 := by omega
          have hKn : k < KS.length := by omega
          simp -implicitDefEqProofs [t_actions_3, hKz, hKn]
        · have hgf : getFd (auD true z 0 f1 R) 1 = some (.int z) := rfl
          generalize wD (xW (stA R) z (List.range R.length) (k + 1)) = W2 at *
          generalize ((xW (stA R) z (List.range R.length) (k + 1)).map Prod.snd).map tN = K2 at *
          generalize wD (xW (stA R) z (List.range R.length) k) = W1 at *
          generalize ((xW (stA R) z (List.range R.length) k).map Prod.snd).map tN = K1 at *
          generalize (List.range R.length).map dN = RN at *
          generalize auD true z 0 f1 R = A1 at *
          generalize auD false z s fs R0 = A0 at *
          have hz1 : z < 1000000 := by omega
          try simp at e3
          simp -implicitDefEqProofs [b_actions_4, hgf, hz1, e3])
  obtain ⟨s', e2, y6, y7, y8, rfl⟩ := loop W Fd.length (s := [some (auD false z s fs R0), some .tbs, some (auD true z 0 f1 R), some (.tup ((List.range R.length).map dN)), some (.dic true 2 [.tup ((List.range R.length).map dN)] [.tup []]), some (.lst true [.tup ((List.range R.length).map dN)]), some (.int (0 : Nat)), none, none, none, none]) ⟨0, none, none, by omega, rfl⟩ (by omega)
  have htab : tab R z = xW (stA R) z (List.range R.length) Fd.length := xW_end hD (by omega)
  rw [htab]
  have hxF := hxl Fd.length
  have hndF : ((xW (stA R) z (List.range R.length) Fd.length).map Prod.snd).Nodup := by rw [xW_snd]; exact xpl_nodup _
  generalize xW (stA R) z (List.range R.length) Fd.length = T at *
  have hc := compV_map (W := W) (f := fun s => (evTo G W .none s).noRz) (g := fun s => (ev G W false e_actions_5 s).noRz) (own := 10) (i := 5)
    (s := [some (auD false z s fs R0), some .tbs, some (auD true z 0 f1 R), some (.tup ((List.range R.length).map dN)), some (wD T), some (.lst true ((T.map Prod.snd).map tN)), y6, y7, y8, none, none]) rfl (by decide) (fun q : PW => tN q.2) (fun _ => rfl) (fun _ => true) eP T (m := true) (by rw [List.map_map]; rfl) (by rw [sizeLine_eq]; omega) W 0 (by omega) (by omega) fun q hq => by
      have hdv := dval_pw hndF (w := q.1) (p := q.2) hq
      have hko := kOk2_tN q.2
      simp only [wD]
      generalize (T.map Prod.snd).map tN = KS at *
      generalize (T.map Prod.fst).map tN = VS at *
      generalize auD false z s fs R0 = A0
      generalize auD true z 0 f1 R = A1
      simp only [tN_ap] at hdv hko ⊢
      try simp at hdv hko
      constructor
      · simp -implicitDefEqProofs []
      · intro _
        simp -implicitDefEqProofs [e_actions_5, hdv, hko, eP, getK, isDic, own, still]
  rw [List.drop_zero, filter_tt] at hc
  have htr : bi1 .trng (.int (R.length : Nat)) = some (.tup ((List.range R.length).map dN)) := by
    have h1 : inR (R.length : Nat) = true := by simp only [inR, Nat.ble_eq]; omega
    have h2 : ((R.length : Nat) : Int) ≤ 16777216 := by omega
    show (if inR (R.length : Nat) && decide (((R.length : Nat) : Int) ≤ 16777216) then some (D.tup ((List.range ((R.length : Nat) : Int).toNat).map fun (i : Nat) => D.int i)) else none) = _
    rw [h1, decide_eq_true h2]; rfl
  have hlT : (R.map tN).length = R.length := List.length_map ..
  have hRz : R.length ≤ 16777216 := by omega
  have hko := kOk2_tN (List.range R.length)
  have hgf : getFd (auD true z 0 f1 R) 4 = some (.tup (R.map tN)) := rfl
  have hsT : stills ((T.map Prod.snd).map tN) = true := stills_mapT tN (fun _ => rfl) _
  have hfz : frz (auD false z s fs R0) = auD false z s fs R0 := by simp only [auD, frz, frzs]
  have hst : still (auD false z s fs R0) = true := by
    have h : stills (R0.map tN) = true := stills_mapT tN (fun _ => rfl) R0
    simp [auD, still, stills, h]
  have ho : ∀ st, own false (some 0) (auD false z s fs R0) st = .ok (auD false z s fs R0) st := fun st => by simp only [own, hst, Bool.or_true, if_true]
  have htn : noL (auD true z 0 f1 R) = true := noL_auD ..
  simp only [tN_ap] at hko
  generalize (T.map Prod.snd).map tN = KS at *
  generalize wD T = WT at *
  generalize T.map eP = TM at *
  generalize (List.range R.length).map dN = RN at *
  generalize R.map tN = RT at *
  generalize auD true z 0 f1 R = A1 at *
  generalize auD false z s fs R0 = A0 at *
  try simp at e1 e2 hko hc
  simp -implicitDefEqProofs [runF, f_actions_eq, g_actions, hg, e1, htr, hlT, hRz, hko, hgf, e2, hsT, hc, hfz, ho, htn, tbsIn, isTbs]
end
/-! Abm147: the law k30 -/
instance : En eP where
  frz q := by simp [eP, frz, frzs, frzs_dN]
  still _ := rfl
  noL q := by
    have h : ∀ l : List Nat, noLs (l.map dN) = true := fun l => noLs_mapT dN (fun _ => rfl) l
    simp [eP, noL, noLs, h]
  plain0 q := by simp [eP, plain0, plains0, plains0_map]
  depth q := by
    have h2 : ∀ l : List Nat, PySem.PyData.depthAll (toPDs (l.map dN)) ≤ 1 := by
      intro l
      induction l with
      | nil => simp [PySem.PyData.depthAll]
      | cons a l ih => simp only [List.map_cons, toPDs, PySem.PyData.depthAll, dN_ap, toPD, PySem.PyData.depth]; omega
    have h3 := h2 q.1
    have h4 := h2 q.2
    simp only [eP, toPD, toPDs, PySem.PyData.depth, PySem.PyData.depthAll]
    omega
  eq a b := by
    obtain ⟨w, p⟩ := a
    obtain ⟨w', p'⟩ := b
    have h1 : eqD (.tup (w.map dN)) (.tup (w'.map dN)) = decide (w = w') := eqD_tupm (f := dN) w w'
    have h2 : eqD (.tup (p.map dN)) (.tup (p'.map dN)) = decide (p = p') := eqD_tupm (f := dN) p p'
    show eqD (eP (w, p)) (eP (w', p')) = _
    rw [eP, eP, eqD_two, h1, h2]
    by_cases e1 : w = w' <;> by_cases e2 : p = p' <;> simp [e1, e2]
section
variable {G : Env0A} {W : Nat} {z s : Nat} {fs : List Nat} {R : List (List Nat)}
theorem frz_auD' (m : Bool) (z s : Nat) (fs : List Nat) (R : List (List Nat)) : frz (auD m z s fs R) = auD false z s fs R := by simp only [auD, frz, frzs]
theorem still_auD' (z s : Nat) (fs : List Nat) (R : List (List Nat)) : still (auD false z s fs R) = true := by
  have h : stills (R.map tN) = true := stills_mapT tN (fun _ => rfl) R
  simp [auD, still, stills, h]
theorem own_auD (i z s : Nat) (fs : List Nat) (R : List (List Nat)) : ∀ st, own false (some i) (auD false z s fs R) st = .ok (auD false z s fs R) st := fun st => by simp only [own, still_auD', Bool.or_true, if_true]
/-- a search whose end keeps something of the state -/
theorem for_findS {α : Type} {st : SA → Fl} {g : MG} (d : α → D) (e : α → D) (l : List α) (p : α → Bool) (I : Nat → SA → Prop) (J : SA → Prop) {s : SA} (h0 : I 0 s)
    (hs : ∀ (k : Nat) (hk : k < l.length) (s : SA), I k s → ∃ s1 s2, asgG g (e l[k]) s = some s1 ∧ ((p l[k] = true ∧ st s1 = .rt (d l[k]) s2 ∧ J s2) ∨ (p l[k] = false ∧ st s1 = .nx s2 ∧ I (k + 1) s2))) :
    (∃ a s', l.find? p = some a ∧ forL st g (l.map e) s = .rt (d a) s' ∧ J s') ∨ (l.find? p = none ∧ ∃ s', forL st g (l.map e) s = .nx s' ∧ I l.length s') := by
  induction l generalizing I s with
  | nil => right; exact ⟨rfl, s, rfl, h0⟩
  | cons a l ih =>
    obtain ⟨s1, s2, e1, h1⟩ := hs 0 (by simp) s h0
    simp only [List.getElem_cons_zero] at h1 e1
    rw [List.map_cons, forL, e1, List.find?_cons]
    rcases h1 with ⟨hp, e2, hj⟩ | ⟨hp, e2, hi⟩
    · rw [hp]
      left
      exact ⟨a, s2, rfl, by simp only [e2], hj⟩
    · rw [hp]
      simp only [e2]
      exact ih (I := fun k => I (k + 1)) hi fun k hk s hi => by
        have := hs (k + 1) (by simpa using hk) s hi
        rw [List.getElem_cons_succ] at this; exact this
def OutcAOk (g : Callee) : Prop := ActsOk g
theorem outcA_ok (hA : Has G 325 ActsOk) : OutcAOk (runF G W f_l_outcomeqqqqqqq) := by
  intro z s fs R hR h4 hz
  obtain ⟨g, hg, hA⟩ := hA
  have e1 := hA z s fs R hR h4 hz
  have hfz := frz_auD' false z s fs R
  have ho := own_auD 0 z s fs R
  generalize (tab (lstR R fs z s) z).map eP = T at *
  generalize auD false z s fs R = A0 at *
  try simp at e1
  simp -implicitDefEqProofs [runF, f_l_outcomeqqqqqqq_eq, g_l_outcomeqqqqqqq, hg, e1, hfz, ho, tbsIn, isTbs]
def firstU (T : List PW) : D := match T.find? (fun q => !restB q.2) with
  | some q => .tup (q.1.map dN)
  | none => .non
def UnsOk (g : Callee) : Prop := ∀ (z s : Nat) (fs : List Nat) (R : List (List Nat)), Aut z s fs R → R.length ≤ 4 → z ≤ 900 → g [auD false z s fs R, .tbs] = .ok (firstU (tab (lstR R fs z s) z)) [.tbs]
theorem tab_U (hR : Aut z s fs R) (h4 : R.length ≤ 4) : ∀ q, q ∈ tab (lstR R fs z s) z → q.2.length ≤ 4 ∧ ∀ x, x ∈ q.2 → x < q.2.length := fun q hq => by
  have hA := lst_aut hR
  have hl := lstR_le (s := s) hR
  obtain ⟨Fd, hD, hFl, hU⟩ := tab_done hA (by omega)
  have h := hU 401 q.2 (by rw [← xW_snd]; exact List.mem_map_of_mem hq)
  refine ⟨by rw [h.1]; omega, fun x hx => ?_⟩
  rw [h.1]; exact h.2 x hx
theorem uns_ok (hA : Has G 325 ActsOk) (hS : Has G 326 SetlOk) : UnsOk (runF G W f_unsettled_word) := by
  intro z s fs R hR h4 hz
  obtain ⟨g, hg, hA⟩ := hA
  obtain ⟨gS, hgS, hS⟩ := hS
  have e1 := hA z s fs R hR h4 hz
  have hU := tab_U hR h4
  generalize tab (lstR R fs z s) z = T at *
  have hfz := frz_auD' false z s fs R
  have ho := own_auD 0 z s fs R
  have hfT : frzs (T.map eP) = T.map eP := frzs_map (f := eP) T
  have key := for_findS (st := fun s => exs G W [1] b_unsettled_word_1 s) (g := .pair 2 3) (fun q : PW => .tup (q.1.map dN)) eP T (fun q => !restB q.2)
    (fun _ st => ∃ y2 y3, st = [some (auD false z s fs R), some .tbs, y2, y3]) (fun st => ∃ y2 y3, st = [some (auD false z s fs R), some .tbs, y2, y3])
    (s := [some (auD false z s fs R), some .tbs, none, none]) ⟨none, none, rfl⟩ fun k hk st hst => by
      obtain ⟨y2, y3, rfl⟩ := hst
      obtain ⟨h1, h2⟩ := hU _ (List.getElem_mem hk)
      have e2 := hS _ h1 h2
      generalize T[k] = q at *
      obtain ⟨w, p⟩ := q
      refine ⟨[some (auD false z s fs R), some .tbs, some (.tup (w.map dN)), some (.tup (p.map dN))], [some (auD false z s fs R), some .tbs, if restB p then some (.tup (w.map dN)) else none, some (.tup (p.map dN))], rfl, ?_⟩
      simp only at e2 ⊢
      generalize restB p = c at *
      generalize auD false z s fs R = A0 at *
      simp only [tN_ap] at e2
      cases c
      · left
        try simp at e2
        refine ⟨rfl, ?_, _, _, rfl⟩
        simp -implicitDefEqProofs [b_unsettled_word_1, hgS, e2]
      · right
        try simp at e2
        refine ⟨rfl, ?_, _, _, rfl⟩
        simp -implicitDefEqProofs [b_unsettled_word_1, hgS, e2]
  rw [firstU]
  have hlT : (T.map eP).length = T.length := List.length_map ..
  generalize auD false z s fs R = A0 at *
  rcases key with ⟨q, s', hf, e2, y2, y3, rfl⟩ | ⟨hf, s', e2, y2, y3, rfl⟩
  · rw [hf]
    generalize T.map eP = TM at *
    try simp at e1 e2
    simp -implicitDefEqProofs [runF, f_unsettled_word_eq, g_unsettled_word, hg, e1, hfz, ho, hfT, e2, tbsIn, isTbs]
  · rw [hf]
    generalize T.map eP = TM at *
    try simp at e1 e2
    simp -implicitDefEqProofs [runF, f_unsettled_word_eq, g_unsettled_word, hg, e1, hfz, ho, hfT, e2, tbsIn, isTbs]
end
/-! Abm148: the law k30 -/
section
variable {G : Env0A} {W : Nat} {z s : Nat} {fs : List Nat} {R : List (List Nat)}
def loo (q : PW) : Bool := !restB q.2
theorem firstU_eq (T : List PW) : firstU T = match T.filter loo with
    | [] => .non
    | q :: _ => .tup (q.1.map dN) := by
  have h : (T.filter loo).head? = T.find? (fun q => !restB q.2) := List.head?_filter ..
  rw [firstU, ← h]
  cases T.filter loo <;> rfl
theorem tail30 (hW : 1000 < W) (hRs : Has G 153 RestPOk) (hUn : Has G 327 UnsOk) (hR : Aut z s fs R) (h4 : R.length ≤ 4) (hz : z ≤ 900) (x0 x2 x3 x4 x6 x7 x8 : Option D) :
    ∃ y9 y10 y11, exs G W [1] c_law_k30_2 [x0, some .tbs, x2, x3, x4, some (auD false z s fs R), x6, x7, x8, some (.lst true ((tab (lstR R fs z s) z).map eP)), some (.lst true ((tab (lstR R fs z s) z).map eP)), none, none] = .rt (.bl true) [x0, some .tbs, x2, x3, x4, some (auD false z s fs R), x6, x7, x8, y9, y10, y11, none] := by
  obtain ⟨gR, hgR, hRs⟩ := hRs
  obtain ⟨gU, hgU, hUn⟩ := hUn
  have e1 := hUn z s fs R hR h4 hz
  have hU := tab_U hR h4
  have hTl : (tab (lstR R fs z s) z).length ≤ 256 := by
    have hA := lst_aut hR
    have hl := lstR_le (s := s) hR
    obtain ⟨Fd, hD, hFl, _⟩ := tab_done hA (by omega)
    exact xl_le hD hFl 401
  generalize tab (lstR R fs z s) z = T at *
  have hc := compV_map (W := W) (f := fun s => (evTo G W t_law_k30_3 s).noRz) (g := fun s => (ev G W false e_law_k30_2 s).noRz) (own := 12) (i := 9)
    (s := [x0, some .tbs, x2, x3, x4, some (auD false z s fs R), x6, x7, x8, some (.lst true (T.map eP)), some (.lst true (T.map eP)), none, none]) rfl (by decide) eP (fun _ => rfl) loo (fun q : PW => .tup (q.1.map dN)) T (m := true) rfl (by rw [sizeLine_eq]; omega) W 0 (by omega) (by omega) fun q hq => by
      obtain ⟨h1, h2⟩ := hU q hq
      have e2 := hRs _ h1 h2
      have hlo : loo q = !restB q.2 := rfl
      rw [hlo]
      generalize restB q.2 = c at *
      generalize auD false z s fs R = A0 at *
      generalize T.map eP = TM at *
      simp only [eP, tN_ap] at e2 ⊢
      try simp at e2
      constructor
      · simp -implicitDefEqProofs [t_law_k30_3, hgR, e2]
      · intro _
        simp -implicitDefEqProofs [e_law_k30_2]
  rw [List.drop_zero] at hc
  rw [firstU_eq] at e1
  have hpl : plain (.lst true (T.map eP)) = true := plain_lstm (f := eP) true T
  have heq : eqD (.lst true (T.map eP)) (.lst true (T.map eP)) = true := by rw [eqD_lstm (f := eP)]; simp
  have hsT : stills (T.map eP) = true := stills_mapT eP (fun _ => rfl) T
  have hfl : (T.filter loo).length ≤ T.length := List.length_filter_le ..
  have hfz := frz_auD' false z s fs R
  have ho := own_auD 5 z s fs R
  generalize T.filter loo = F at *
  generalize auD false z s fs R = A0 at *
  generalize T.map eP = TM at *
  cases F with
  | nil =>
    simp only [List.map_nil] at hc
    try simp at e1 hc
    simp -implicitDefEqProofs [c_law_k30_2, hgU, hpl, heq, hsT, hc, hfz, ho, e1, tbsIn, isTbs]
  | cons q F =>
    have hq1 : plain (.tup (q.1.map dN)) = true := plain_tupm (f := dN) q.1
    have hq2 : eqD (.tup (q.1.map dN)) (.tup (q.1.map dN)) = true := by rw [eqD_tupm (f := dN)]; simp
    simp only [List.map_cons] at hc
    simp only [List.length_cons] at hfl
    have hFz : F.length + 1 ≤ 16777216 := by omega
    have hFn : ¬ ((F.length : Nat) : Int) + 1 = 0 := by omega
    generalize hFM : F.map (fun q : PW => D.tup (q.1.map dN)) = FM at *
    have hFMl : FM.length = F.length := by rw [← hFM, List.length_map]
    try simp at e1 hc
    simp -implicitDefEqProofs [c_law_k30_2, hgU, hpl, heq, hsT, hc, hfz, ho, e1, hq1, hq2, hFz, hFn, hFMl, tbsIn, isTbs]
theorem binmul (m : Bool) (xs : List D) (k : Int) : bin .mul (.lst m xs) (.int k) = if stills xs && decide (-(2 ^ 63) ≤ k ∧ k < 2 ^ 63 ∧ xs.length * k.toNat ≤ sizeLine) then some (.lst true (List.replicate k.toNat xs).flatten) else none := rfl
theorem mul30 (m : Bool) {z : Nat} (hz : z ≤ 900) : bin .mul (.lst m [.tup [.int 0]]) (.int (z : Nat)) = some (.lst true ((List.replicate z [0]).map tN)) := by
  have h1 : (List.replicate z [D.tup [D.int 0]]).flatten = (List.replicate z [0]).map tN := by
    induction z with
    | zero => rfl
    | succ z ih => rw [List.replicate_succ, List.flatten_cons, ih (by omega), List.replicate_succ]; rfl
  have h2 : (-(2 ^ 63) ≤ ((z : Nat) : Int) ∧ ((z : Nat) : Int) < 2 ^ 63 ∧ [D.tup [.int 0]].length * ((z : Nat) : Int).toNat ≤ sizeLine) := by
    rw [sizeLine_eq, Int.toNat_natCast]
    refine ⟨by omega, by omega, ?_⟩
    simp only [List.length_singleton]; omega
  rw [binmul, decide_eq_true h2, Int.toNat_natCast, h1]
  rfl
theorem law30 (hW : 2000 < W) (hD : Has G 5 DrawsOk) (hT : Has G 6 TakeOk) (hAn : Has G 63 AnyAutOk) (hMd : Has G 66 MadeOk) (hWd : Has G 14 WordOk) (hRn : Has G 61 RunOk) (hAc : Has G 247 ActOk) (hTb : Has G 329 TabOk) (hOu : Has G 328 OutcAOk) (hRs : Has G 153 RestPOk) (hUn : Has G 327 UnsOk) (ns : List Int) : runF G W f_law_k30 [.scr ns, .tbs] = .ok (.bl true) [.tbs] := by
  obtain ⟨gD, hgD, hD⟩ := hD
  obtain ⟨gT, hgT, hT⟩ := hT
  obtain ⟨gAn, hgAn, hAn⟩ := hAn
  obtain ⟨gM, hgM, hMd⟩ := hMd
  obtain ⟨gW, hgW, hWd⟩ := hWd
  obtain ⟨gR, hgR, hRn⟩ := hRn
  obtain ⟨gAc, hgAc, hAc⟩ := hAc
  obtain ⟨gTb, hgTb, hTb⟩ := hTb
  obtain ⟨gOu, hgOu, hOu⟩ := hOu
  obtain ⟨xs, e1⟩ := hD ns 80 (by decide)
  obtain ⟨r, us, e2, hr⟩ := hT xs 3 (by decide)
  have hz1 : (1 : Int) + (r : Int) = ((1 + r : Nat) : Int) := by omega
  obtain ⟨z, hzz⟩ : ∃ z, z = 1 + r := ⟨_, rfl⟩
  rw [← hzz] at hz1
  obtain ⟨s, fs, R, vs, e3, hR, hRl⟩ := hAn us z 4 (by omega) (by omega) (by decide) (by decide)
  obtain ⟨w, ws, e4, hwl, hwa⟩ := hWd vs z 6 (by omega) (by decide)
  have e5 := hMd (List.replicate z [0]) s fs R (by rw [List.length_replicate]; exact hR) (by rw [List.length_replicate]; omega) (by omega)
  rw [List.length_replicate] at e5
  have e6 := hAc z s fs R w hR (by omega) hwa
  have e7 := hTb z s fs R hR hRl (by omega)
  have e8 := hOu z s fs R hR hRl (by omega)
  have hmul := mul30 true (z := z) (by omega)
  have hmulf := mul30 false (z := z) (by omega)
  have hfm : frzs ((List.replicate z [0]).map tN) = (List.replicate z [0]).map tN := frzs_mapE tN tN (fun _ => rfl) _
  have hc := compL_map (f := fun s => (evTo G W .none s).noRz) (g := fun s => (ev G W false e_law_k30_1 s).noRz) (own := 8)
    (s := [some (.scr ns), some .tbs, some (.lst true (ws.map .int)), some (.int z), some (autT s fs R), some (auD true z s fs R), some (.tup (w.map dN)), none, none, none, none, none, none]) rfl dN (fun _ => true) (fun q => dN (runA R q w)) (List.range R.length) fun q hq => by
      have hq := List.mem_range.mp hq
      have e9 := hRn z q [] R w ⟨hq, hR.row, List.Pairwise.nil, fun f hf => by simp at hf, hR.z1⟩ hwa
      have hfL : frzs (R.map (lT dN)) = R.map (lT dN) := frzs_mapE _ _ (fun r => by simp only [frz, lT, frzs_dN]) R
      have hsL : stills (R.map (lT dN)) = true := stills_mapT (lT dN) (fun r => by simp [lT, still]) R
      generalize runA R q w = y at *
      generalize auD true z s fs R = A0 at *
      simp only [autT, List.map_nil] at e9 ⊢
      generalize R.map (lT dN) = RL at *
      try simp at e9
      constructor
      · simp -implicitDefEqProofs []
      · intro _
        simp -implicitDefEqProofs [e_law_k30_1, hgR, e9, hfL, hsL, own]
  rw [filter_tt] at hc
  have hdue : (List.range R.length).map (fun q => dN (runA R q w)) = ((List.range R.length).map fun q => runA R q w).map dN := by rw [List.map_map]; rfl
  rw [hdue] at hc
  have hp1 : plain (.tup (((List.range R.length).map fun q => runA R q w).map dN)) = true := plain_tupm (f := dN) _
  have hq1 : eqD (.tup (((List.range R.length).map fun q => runA R q w).map dN)) (.tup (((List.range R.length).map fun q => runA R q w).map dN)) = true := by rw [eqD_tupm (f := dN)]; simp
  have hsd : stills (((List.range R.length).map fun q => runA R q w).map dN) = true := stills_mapT dN (fun _ => rfl) _
  have hfd : frzs (((List.range R.length).map fun q => runA R q w).map dN) = ((List.range R.length).map fun q => runA R q w).map dN := frzs_dN _
  have hTl : (tab (lstR R fs z s) z).length ≤ 256 := by
    have hA := lst_aut hR
    have hl := lstR_le (s := s) hR
    obtain ⟨Fd, hD, hFl, _⟩ := tab_done hA (by omega)
    exact xl_le hD hFl 401
  obtain ⟨y9, y10, y11, e10⟩ := tail30 (G := G) (W := W) (by omega) hRs hUn hR hRl (by omega) (some (.scr ns)) (some (.lst true (ws.map .int))) (some (.int z)) (some (autT s fs R)) (some (.tup (w.map dN))) (some (.tup (((List.range R.length).map fun q => runA R q w).map dN))) none
  have hMl : ((tab (lstR R fs z s) z).map eP).length = (tab (lstR R fs z s) z).length := List.length_map ..
  have hfz := frz_auD' true z s fs R
  have hfz1 := frz_auD' false z s fs R
  have ho1 := own_auD 5 z s fs R
  have hst : still (auD true z s fs R) = false := rfl
  have ho : ∀ st, rd st 5 = some (auD true z s fs R) → own false (some 5) (auD true z s fs R) st = .ok (auD false z s fs R) (st.set 5 (some (auD false z s fs R))) := fun st h => by
    simp only [own, hst, Bool.or_false, Bool.false_eq_true, if_false, h, hfz]
  have hA6 : autS false s fs R = autT s fs R := rfl
  rw [hA6] at e7
  have hgi : getIx (autT s fs R) 2 = some (.lst false (R.map (lT dN))) := rfl
  have hfA : frz (autT s fs R) = autT s fs R := by
    have hfL : frzs (R.map (lT dN)) = R.map (lT dN) := frzs_mapE _ _ (fun r => by simp only [frz, lT, frzs_dN]) R
    simp only [autT, frz, frzs, frzs_dN, hfL]
  have hsA : still (autT s fs R) = true := by
    have hsL : stills (R.map (lT dN)) = true := stills_mapT (lT dN) (fun r => by simp [lT, still]) R
    simp [autT, still, stills, hsL]
  have hoA : ∀ st, own false (some 4) (autT s fs R) st = .ok (autT s fs R) st := fun st => by simp only [own, hsA, Bool.or_true, if_true]
  have hlL : (R.map (lT dN)).length = R.length := List.length_map ..
  have hRz : R.length ≤ 16777216 := by omega
  have hRz1 : R.length < 1000000 := by omega
  have hwz : w.length ≤ 16777216 := by omega
  have hTz : (tab (lstR R fs z s) z).length ≤ 16777216 := by omega
  have hT4 : ¬ (400 : Int) < ((tab (lstR R fs z s) z).length : Nat) := by omega
  have hlD : (((List.range R.length).map fun q => runA R q w).map dN).length ≤ 16777216 := by simp; omega
  rw [tN_ap] at e6
  generalize ((List.range R.length).map fun q => runA R q w).map dN = DUE at *
  generalize (tab (lstR R fs z s) z).map eP = TM at *
  generalize (List.replicate z [0]).map tN = LR at *
  generalize autT s fs R = AT at *
  generalize auD true z s fs R = A1 at *
  generalize auD false z s fs R = A0 at *
  generalize R.map (lT dN) = RL at *
  try simp at e1 e2 e3 e4 e5 e6 e7 e8 e10 hc
  simp -implicitDefEqProofs [runF, f_law_k30_eq, g_law_k30, c_law_k30_1, hgD, hgT, hgAn, hgM, hgW, hgAc, hgTb, hgOu, e1, e2, hz1, e3, e4, e5, e6, e7, e8, e10, hc, hmul, hmulf, hfm, hp1, hq1, hsd, hfd, hMl, hfz, hfz1, ho1, ho, hgi, hfA, hoA, hlL, hRz, hRz1, hwz, hTz, hT4, hlD, tbsIn, isTbs]
end
end
end Ab
namespace Ab
open PySem L2 NdefX LamX
def top (i : Nat) : Stmt := PySem.Challenge.pw_placewords_k30_actions.main.body.getD i (.Pass ⟨0, 0, 0, 0⟩)
def inFn (s : Stmt) (j : Nat) : Stmt := (defBody s).getD j (.Pass ⟨0, 0, 0, 0⟩)
def att : Nat → Str
  | 1 => "letters"
  | 2 => "start"
  | 3 => "finals"
  | 4 => "rows"
  | _ => "?"
def W0 : Nat := 1000000
/-- what the module holds -/
structure Facts (K : PySem.W.Frag) (mg : Str → Option Value) (S : Sig) : Prop where
  hK : S.K = K
  hC : ClsOk K att S
  m_int : mg "int" = none
  m_isinstance : mg "isinstance" = none
  m_len : mg "len" = none
  m_list : mg "list" = none
  m_range : mg "range" = none
  m_set : mg "set" = none
  m_tuple : mg "tuple" = none
  g_MOST_ACTIONS : ∃ t, mg "MOST_ACTIONS" = some (.int 400 t)
  rz_InvalidAutomaton : ExFact K mg S 1 "InvalidAutomaton"
  rz_TooLarge : ExFact K mg S 2 "TooLarge"
  ct_TooLarge : ExCatch K mg S 2 "TooLarge"
  nf_281 : ∀ cl c, S.nf 281 (NF.of (inFn (top 10) 3) "step" "least.<locals>.step" cl c)
  ni_281 : ∀ F0, S.nf 281 F0 → ∃ cl c, F0 = NF.of (inFn (top 10) 3) "step" "least.<locals>.step" cl c
  fr_281 : S.fr 281 = (["automaton", "classes", "samples"] : List Str)
  nf_282 : ∀ cl c, S.nf 282 (NF.of (inFn (top 10) 4) "is_final" "least.<locals>.is_final" cl c)
  ni_282 : ∀ F0, S.nf 282 F0 → ∃ cl c, F0 = NF.of (inFn (top 10) 4) "is_final" "least.<locals>.is_final" cl c
  fr_282 : S.fr 282 = (["automaton", "samples"] : List Str)
  nfs : ∀ n F0, S.nf n F0 → n = 281 ∨ n = 282
variable {P : Program} {w : World} {K : PySem.W.Frag} {mg : Str → Option Value} {base : Heap} {S : Sig}
def G_right_row : Env0A := fun _ => none
def c_right_row : Callee := runF G_right_row W0 f_right_row
theorem sc_right_row : FnScope ["row", "letters", "states", "state"] ["row", "letters", "states"] (defScope (top 6)) := ⟨rfl, rfl, rfl, by decide +kernel, rfl, by decide +kernel, by decide +kernel⟩
theorem fn_right_row (Fa : Facts K mg S) {fa : Addr} {fd : FuncData} (F : Fun K "right_row" "right_row" (top 6) fa fd) : FnOk P w K mg base (L2.CX P w) 1 fa fd ["row", "letters", "states"] (spA S [] c_right_row) := by
  refine fn_ok (k := 0) F sc_right_row rfl rfl (by decide) (by decide) fun cdv A outer s H E hr => ?_
  have c : Ctx (cxOf (L2.CX P w) P w K mg base ["row", "letters", "states", "state"] "right_row" (defScope (top 6)) fa cdv A outer s H E) S att 0 (fun cls d _ H => E cls d H) := ⟨Fa.hK, Fa.hC, hr, sc_right_row.nd, rfl, takes_def⟩
  have po : PassesOwn (model P w) (cxOf (L2.CX P w) P w K mg base ["row", "letters", "states", "state"] "right_row" (defScope (top 6)) fa cdv A outer s H E).A (cxOf (L2.CX P w) P w K mg base ["row", "letters", "states", "state"] "right_row" (defScope (top 6)) fa cdv A outer s H E).env (cxOf (L2.CX P w) P w K mg base ["row", "letters", "states", "state"] "right_row" (defScope (top 6)) fa cdv A outer s H E).xe := PassesOwn.leaving
  exact (ss_cons (s_ite (kt_cmp .ne c (k_len c Fa.m_len (k_slot 0)) (k_slot 1)) (ss_cons (ks_ret k_bl)
 ss_nil) ss_nil)
 (ss_cons (ks_for c po (kg_name c 3) (ki_slot 0) fun fx => (ss_cons (s_ite (t_or (kt_cmp .lt c (k_slot 3) k_int) (pw_or1 (kt_cmp .ge c (k_slot 3) (k_slot 2)))).pt (ss_cons (ks_ret k_bl)
 ss_nil) ss_nil)
 ss_nil))
 (ss_cons (ks_ret k_bl)
 ss_nil)))
def G_ascends : Env0A := fun _ => none
def c_ascends : Callee := runF G_ascends W0 f_ascends
theorem sc_ascends : FnScope ["numbers", "limit", "k"] ["numbers", "limit"] (defScope (top 5)) := ⟨rfl, rfl, rfl, by decide +kernel, rfl, by decide +kernel, by decide +kernel⟩
theorem fn_ascends (Fa : Facts K mg S) {fa : Addr} {fd : FuncData} (F : Fun K "ascends" "ascends" (top 5) fa fd) : FnOk P w K mg base (L2.CX P w) 1 fa fd ["numbers", "limit"] (spA S [] c_ascends) := by
  refine fn_ok (k := 0) F sc_ascends rfl rfl (by decide) (by decide) fun cdv A outer s H E hr => ?_
  have c : Ctx (cxOf (L2.CX P w) P w K mg base ["numbers", "limit", "k"] "ascends" (defScope (top 5)) fa cdv A outer s H E) S att 0 (fun cls d _ H => E cls d H) := ⟨Fa.hK, Fa.hC, hr, sc_ascends.nd, rfl, takes_def⟩
  have po : PassesOwn (model P w) (cxOf (L2.CX P w) P w K mg base ["numbers", "limit", "k"] "ascends" (defScope (top 5)) fa cdv A outer s H E).A (cxOf (L2.CX P w) P w K mg base ["numbers", "limit", "k"] "ascends" (defScope (top 5)) fa cdv A outer s H E).env (cxOf (L2.CX P w) P w K mg base ["numbers", "limit", "k"] "ascends" (defScope (top 5)) fa cdv A outer s H E).xe := PassesOwn.leaving
  exact (ss_cons (ks_for c po (kg_name c 2) (ki_r1 Fa.m_range (k_len c Fa.m_len (k_slot 0))) fun fx => (ss_cons (s_ite (t_or (kt_cmp .lt c (k_sub c (k_slot 0) (k_slot 2)) k_int) (t_or (kt_cmp .ge c (k_sub c (k_slot 0) (k_slot 2)) (k_slot 1)) (pw_or1 (t_and (kt_cmp .gt c (k_slot 2) k_int) (pw_and1 (kt_cmp .le c (k_sub c (k_slot 0) (k_slot 2)) (k_sub c (k_slot 0) (k_bin .sub (k_slot 2) k_int))))).pt))).pt (ss_cons (ks_ret k_bl)
 ss_nil) ss_nil)
 ss_nil))
 (ss_cons (ks_ret k_bl)
 ss_nil))
def G_Automaton_init : Env0A
  | 57 => some c_right_row
  | 56 => some c_ascends
  | _ => none
def c_Automaton_init : Callee := runF G_Automaton_init W0 f_Automaton_init
theorem sc_Automaton_init : FnScope ["self", "letters", "start", "finals", "rows", "valid", "row"] ["self", "letters", "start", "finals", "rows"] (defScope (inClass (top 7) 0)) := ⟨rfl, rfl, rfl, by decide +kernel, rfl, by decide +kernel, by decide +kernel⟩
theorem fn_Automaton_init (Fa : Facts K mg S) (Lb57 : LibFn P w K mg base S [] c_right_row 1 "right_row") (Lb56 : LibFn P w K mg base S [] c_ascends 1 "ascends") {fa : Addr} {fd : FuncData} (F : Fun K "__init__" "Automaton.__init__" (inClass (top 7) 0) fa fd) : FnOk P w K mg base (L2.CX P w) 2 fa fd ["self", "letters", "start", "finals", "rows"] (spA S [0] c_Automaton_init) := by
  refine fn_ok (k := 1) F sc_Automaton_init rfl rfl (by decide) (by decide) fun cdv A outer s H E hr => ?_
  have c : Ctx (cxOf (L2.CX P w) P w K mg base ["self", "letters", "start", "finals", "rows", "valid", "row"] "Automaton.__init__" (defScope (inClass (top 7) 0)) fa cdv A outer s H E) S att 1 (fun cls d _ H => E cls d H) := ⟨Fa.hK, Fa.hC, hr, sc_Automaton_init.nd, rfl, takes_def⟩
  have po : PassesOwn (model P w) (cxOf (L2.CX P w) P w K mg base ["self", "letters", "start", "finals", "rows", "valid", "row"] "Automaton.__init__" (defScope (inClass (top 7) 0)) fa cdv A outer s H E).A (cxOf (L2.CX P w) P w K mg base ["self", "letters", "start", "finals", "rows", "valid", "row"] "Automaton.__init__" (defScope (inClass (top 7) 0)) fa cdv A outer s H E).env (cxOf (L2.CX P w) P w K mg base ["self", "letters", "start", "finals", "rows", "valid", "row"] "Automaton.__init__" (defScope (inClass (top 7) 0)) fa cdv A outer s H E).xe := PassesOwn.leaving
  exact (ss_cons (ks_asg c 5 (k_and (k_cmp .ge c (k_slot 1) k_int) (k_and (k_chain .le .lt c k_int (k_slot 2) (k_len c Fa.m_len (k_slot 4))) (pe_one (k_call c Lb56 rfl (k_rd (k_slot 3) (k_rd (k_len c Fa.m_len (k_slot 4)) a_nil)))))))
 (ss_cons (ks_for c po (kg_name c 6) (ki_slot 4) fun fx => (ss_cons (ks_asg c 5 (k_and (k_slot 5) (pe_one (k_call c Lb57 rfl (k_rd (k_slot 6) (k_rd (k_slot 1) (k_rd (k_len c Fa.m_len (k_slot 4)) a_nil)))))))
 ss_nil))
 (ss_cons (s_ite (t_not (kt_val (k_slot 5))) (ss_cons (ks_raiseV c 1 Fa.rz_InvalidAutomaton)
 ss_nil) ss_nil)
 (ss_cons (ks_setF c 0 1 (k_slot 1))
 (ss_cons (ks_setF c 0 2 (k_slot 2))
 (ss_cons (ks_setF c 0 3 (k_tuple c Fa.m_tuple (k_slot 3)))
 (ss_cons (ks_setF c 0 4 (k_tuple c Fa.m_tuple (k_comp c 6 (ki_slot 4) (fun s H C cl fp c => (k_tuple c Fa.m_tuple (k_slot 6))) (fun s H C cl fp c => t_none))))
 ss_nil)))))))
def G_least_step : Env0A := fun _ => none
def c_least_step : Callee := runF G_least_step W0 f_least_step
theorem sc_least_step : NScope ["number", "letter", "automaton", "classes", "samples"] ["number", "letter"] ["automaton", "classes", "samples"] (C8.fnScope (inFn (top 10) 3)) := nscope_by (by decide +kernel)
theorem fn_least_step (Fa : Facts K mg S) : LibClo P w K mg base S 281 c_least_step 1 := by
  refine clo_ok (k := 0) (N := ["number", "letter", "automaton", "classes", "samples"]) (ps := ["number", "letter"]) Fa.ni_281 Fa.fr_281 sc_least_step (fun _ _ _ _ _ us hl => match us, hl with | [_, _], _ => rfl) rfl rfl rfl fun cl cc f1 A outer s H E hr => ?_
  have c : Ctx (ncx (L2.CX P w) P w K mg base ["number", "letter", "automaton", "classes", "samples"] (NF.of (inFn (top 10) 3) "step" "least.<locals>.step" cl cc) f1 A outer s H E) S att 0 (fun cls d _ H => E cls d H) := ⟨Fa.hK, Fa.hC, hr, sc_least_step.nd, rfl, takes_ncx⟩
  have po : PassesOwn (model P w) (ncx (L2.CX P w) P w K mg base ["number", "letter", "automaton", "classes", "samples"] (NF.of (inFn (top 10) 3) "step" "least.<locals>.step" cl cc) f1 A outer s H E).A (ncx (L2.CX P w) P w K mg base ["number", "letter", "automaton", "classes", "samples"] (NF.of (inFn (top 10) 3) "step" "least.<locals>.step" cl cc) f1 A outer s H E).env (ncx (L2.CX P w) P w K mg base ["number", "letter", "automaton", "classes", "samples"] (NF.of (inFn (top 10) 3) "step" "least.<locals>.step" cl cc) f1 A outer s H E).xe := PassesOwn.leaving
  exact (ss_cons (ks_ret (k_sub c (k_slot 3) (k_sub c (k_sub c (k_fld (j := 4) c (k_slot 2)) (k_dget c (k_slot 4) (k_slot 0))) (k_slot 1))))
 ss_nil)
def G_least_is_final : Env0A := fun _ => none
def c_least_is_final : Callee := runF G_least_is_final W0 f_least_is_final
theorem sc_least_is_final : NScope ["number", "automaton", "samples"] ["number"] ["automaton", "samples"] (C8.fnScope (inFn (top 10) 4)) := nscope_by (by decide +kernel)
theorem fn_least_is_final (Fa : Facts K mg S) : LibClo P w K mg base S 282 c_least_is_final 1 := by
  refine clo_ok (k := 0) (N := ["number", "automaton", "samples"]) (ps := ["number"]) Fa.ni_282 Fa.fr_282 sc_least_is_final (fun _ _ _ _ _ us hl => match us, hl with | [_], _ => rfl) rfl rfl rfl fun cl cc f1 A outer s H E hr => ?_
  have c : Ctx (ncx (L2.CX P w) P w K mg base ["number", "automaton", "samples"] (NF.of (inFn (top 10) 4) "is_final" "least.<locals>.is_final" cl cc) f1 A outer s H E) S att 0 (fun cls d _ H => E cls d H) := ⟨Fa.hK, Fa.hC, hr, sc_least_is_final.nd, rfl, takes_ncx⟩
  have po : PassesOwn (model P w) (ncx (L2.CX P w) P w K mg base ["number", "automaton", "samples"] (NF.of (inFn (top 10) 4) "is_final" "least.<locals>.is_final" cl cc) f1 A outer s H E).A (ncx (L2.CX P w) P w K mg base ["number", "automaton", "samples"] (NF.of (inFn (top 10) 4) "is_final" "least.<locals>.is_final" cl cc) f1 A outer s H E).env (ncx (L2.CX P w) P w K mg base ["number", "automaton", "samples"] (NF.of (inFn (top 10) 4) "is_final" "least.<locals>.is_final" cl cc) f1 A outer s H E).xe := PassesOwn.leaving
  exact (ss_cons (ks_ret (k_cmp .inn c (k_dget c (k_slot 2) (k_slot 0)) (k_fld (j := 3) c (k_slot 1))))
 ss_nil)
def G_explored_0 : Env0A
  | 58 => some c_Automaton_init
  | 281 => some c_least_step
  | 282 => some c_least_is_final
  | _ => none
def c_explored_0 : Callee := runF G_explored_0 W0 f_explored_0
theorem sc_explored_0 : FnScope ["letters", "start", "step", "is_final", "%t", "found", "numbers", "rows", "at", "row", "letter", "after", "finals", "k"] ["letters", "start", "step", "is_final"] (defScope (top 8)) := ⟨rfl, rfl, rfl, by decide +kernel, rfl, by decide +kernel, by decide +kernel⟩
theorem fn_explored_0 (Fa : Facts K mg S) (Lb58 : LibCls P w K mg base S 1 c_Automaton_init 2 "Automaton") (Lc281 : LibClo P w K mg base S 281 c_least_step 1) (Lc282 : LibClo P w K mg base S 282 c_least_is_final 1) {fa : Addr} {fd : FuncData} (F : Fun K "explored" "explored" (top 8) fa fd) : FnOk P w K mg base (L2.CX P w) 4 fa fd ["letters", "start", "step", "is_final"] (spT S [4] c_explored_0) := by
  refine fn_okT (k := 3) F sc_explored_0 rfl rfl (by decide) (by decide) rfl (by decide +kernel) fun cdv A outer s H E hr => ?_
  have c : Ctx (cxOf (L2.CX P w) P w K mg base ["letters", "start", "step", "is_final", "%t", "found", "numbers", "rows", "at", "row", "letter", "after", "finals", "k"] "explored" (defScope (top 8)) fa cdv A outer s H E) S att 3 (fun cls d _ H => E cls d H) := ⟨Fa.hK, Fa.hC, hr, sc_explored_0.nd, rfl, takes_def⟩
  have po : PassesOwn (model P w) (cxOf (L2.CX P w) P w K mg base ["letters", "start", "step", "is_final", "%t", "found", "numbers", "rows", "at", "row", "letter", "after", "finals", "k"] "explored" (defScope (top 8)) fa cdv A outer s H E).A (cxOf (L2.CX P w) P w K mg base ["letters", "start", "step", "is_final", "%t", "found", "numbers", "rows", "at", "row", "letter", "after", "finals", "k"] "explored" (defScope (top 8)) fa cdv A outer s H E).env (cxOf (L2.CX P w) P w K mg base ["letters", "start", "step", "is_final", "%t", "found", "numbers", "rows", "at", "row", "letter", "after", "finals", "k"] "explored" (defScope (top 8)) fa cdv A outer s H E).xe := PassesOwn.leaving
  have Lclo : ∀ n g F0, G_explored_0 n = some g → S.nf n F0 → LibClo P w K mg base S n g 1 := fun n g F0 h1 h2 => by
    rcases Fa.nfs n F0 h2 with rfl | rfl
    all_goals first | exact nomatch (show (none : Option Callee) = some g from h1) | (have h4 : some c_least_step = some g := h1; cases h4; exact Lc281.mono (by decide)) | (have h4 : some c_least_is_final = some g := h1; cases h4; exact Lc282.mono (by decide))
  exact (ss_cons (ks_asg c 5 (c_lst (k_cons (k_slot 1) c_nil)))
 (ss_cons (ks_asg c 6 (k_dlit c 0 (k_slot 1) k_int))
 (ss_cons (ks_asg c 7 (c_lst c_nil))
 (ss_cons (ks_asg c 8 k_int)
 (ss_cons (s_while po (kt_cmp .lt c (k_slot 8) (k_len c Fa.m_len (k_slot 5))) (ss_cons (ks_asg c 9 (c_lst c_nil))
 (ss_cons (ks_for c po (kg_name c 10) (ki_r1 Fa.m_range (k_slot 0)) fun fx => (ss_cons (ks_asg c 11 (k_callc c 2 Lclo (k_rd (k_sub c (k_slot 5) (k_slot 8)) (k_rd (k_slot 10) a_nil))))
 (ss_cons (s_ite (kt_cmp .nin c (k_slot 11) (k_slot 6)) (ss_cons (ks_dset c 6 (k_slot 11) (k_len c Fa.m_len (k_slot 5)))
 (ss_cons (ks_append c (kp_slot 5) (k_slot 11))
 ss_nil)) ss_nil)
 (ss_cons (ks_append c (kp_slot 9) (k_dget c (k_slot 6) (k_slot 11)))
 ss_nil))))
 (ss_cons (ks_append c (kp_slot 7) (k_slot 9))
 (ss_cons (ks_augAdd c 8 k_int)
 ss_nil)))))
 (ss_cons (ks_setLc c 12 13 (ki_r1 Fa.m_range (k_len c Fa.m_len (k_slot 5))) (fun s H C cl fp c => (k_slot 13)) (fun s H C cl fp c => t_some (kt_val (k_callc c 3 Lclo (k_rd (k_sub c (k_slot 5) (k_slot 13)) a_nil)))))
 (ss_cons (ks_ret (k_make c Lb58 rfl (k_rd (k_slot 0) (k_rd k_int (k_rd (k_slot 12) (k_bor 7 a_nil))))))
 ss_nil)))))))
def G_classes_of : Env0A := fun _ => none
def c_classes_of : Callee := runF G_classes_of W0 f_classes_of
theorem sc_classes_of : FnScope ["automaton", "finals", "classes", "state", "count", "signs", "target", "order", "sign"] ["automaton"] (defScope (top 9)) := ⟨rfl, rfl, rfl, by decide +kernel, rfl, by decide +kernel, by decide +kernel⟩
theorem fn_classes_of (Fa : Facts K mg S) {fa : Addr} {fd : FuncData} (F : Fun K "classes_of" "classes_of" (top 9) fa fd) : FnOk P w K mg base (L2.CX P w) 1 fa fd ["automaton"] (spA S [] c_classes_of) := by
  refine fn_ok (k := 0) F sc_classes_of rfl rfl (by decide) (by decide) fun cdv A outer s H E hr => ?_
  have c : Ctx (cxOf (L2.CX P w) P w K mg base ["automaton", "finals", "classes", "state", "count", "signs", "target", "order", "sign"] "classes_of" (defScope (top 9)) fa cdv A outer s H E) S att 0 (fun cls d _ H => E cls d H) := ⟨Fa.hK, Fa.hC, hr, sc_classes_of.nd, rfl, takes_def⟩
  have po : PassesOwn (model P w) (cxOf (L2.CX P w) P w K mg base ["automaton", "finals", "classes", "state", "count", "signs", "target", "order", "sign"] "classes_of" (defScope (top 9)) fa cdv A outer s H E).A (cxOf (L2.CX P w) P w K mg base ["automaton", "finals", "classes", "state", "count", "signs", "target", "order", "sign"] "classes_of" (defScope (top 9)) fa cdv A outer s H E).env (cxOf (L2.CX P w) P w K mg base ["automaton", "finals", "classes", "state", "count", "signs", "target", "order", "sign"] "classes_of" (defScope (top 9)) fa cdv A outer s H E).xe := PassesOwn.leaving
  exact (ss_cons (ks_asg c 1 (k_fld (j := 3) c (k_slot 0)))
 (ss_cons (ks_asg c 2 (k_comp c 3 (ki_r1 Fa.m_range (k_len c Fa.m_len (k_fld (j := 4) c (k_slot 0)))) (fun s H C cl fp c => (k_intF Fa.m_int (k_cmp .inn c (k_slot 3) (k_slot 1)))) (fun s H C cl fp c => t_none)))
 (ss_cons (ks_asg c 4 k_int)
 (ss_cons (s_while po (kt_cmp .ne c (k_slot 4) (k_lset c Fa.m_len Fa.m_set (k_slot 2))) (ss_cons (ks_asg c 4 (k_lset c Fa.m_len Fa.m_set (k_slot 2)))
 (ss_cons (ks_asg c 5 (c_lst c_nil))
 (ss_cons (ks_for c po (kg_name c 3) (ki_r1 Fa.m_range (k_len c Fa.m_len (k_fld (j := 4) c (k_slot 0)))) fun fx => (ss_cons (ks_append c (kp_slot 5) (c_tup (k_cons (k_sub c (k_slot 2) (k_slot 3)) (k_cons (k_tuple c Fa.m_tuple (k_comp c 6 (ki_of (k_sub c (k_fld (j := 4) c (k_slot 0)) (k_slot 3))) (fun s H C cl fp c => (k_sub c (k_slot 2) (k_slot 6))) (fun s H C cl fp c => t_none))) c_nil))))
 ss_nil))
 (ss_cons (ks_asg c 7 (k_dnew 2))
 (ss_cons (ks_for c po (kg_name c 8) (ki_slot 5) fun fx => (ss_cons (s_ite (kt_cmp .nin c (k_slot 8) (k_slot 7)) (ss_cons (ks_dset c 7 (k_slot 8) (k_lend c Fa.m_len (k_slot 7)))
 ss_nil) ss_nil)
 ss_nil))
 (ss_cons (ks_asg c 2 (k_comp c 8 (ki_slot 5) (fun s H C cl fp c => (k_dget c (k_slot 7) (k_slot 8))) (fun s H C cl fp c => t_none)))
 ss_nil)))))))
 (ss_cons (ks_retS 2)
 ss_nil)))))
def G_least : Env0A
  | 283 => some c_explored_0
  | 280 => some c_classes_of
  | _ => none
def c_least : Callee := runN G_least W0 f_least
theorem sc_least : FnScope ["automaton", "%t", "classes", "samples", "state", "step", "is_final"] ["automaton"] (defScope (top 10)) := ⟨rfl, rfl, rfl, by decide +kernel, rfl, by decide +kernel, by decide +kernel⟩
def nm_least : Nat → Nat → Str := fun l _ => if l = 72 then "least.<locals>.step" else if l = 75 then "least.<locals>.is_final" else "?"
theorem fn_least (Fa0 : ∀ ce, Facts K mg (S.at ce)) (Lb2830 : ∀ ce, LibFnT P w K mg base (S.at ce) [4] c_explored_0 4 "explored") (Lb2800 : ∀ ce, LibFn P w K mg base (S.at ce) [] c_classes_of 1 "classes_of") {fa : Addr} {fd : FuncData} (F : Fun K "least" "least" (top 10) fa fd) {pt : NTab} {cd : Addr} (hpt : pt ∈ S.tabs) (hut : ∀ p' ∈ S.tabs, p'.1 = pt.1 → p'.2 = pt.2) (hnm : pt.2 = nm_least) (hcd : fd.code = .ref cd) (TB : TabB base mg cd pt.1) : FnOk P w K mg base (L2.CX P w) 5 fa fd ["automaton"] (spT S [1] c_least) := by
  refine fn_okN (k := 4) F sc_least rfl rfl (by decide) (by decide) rfl (by decide +kernel) fun A outer s H E hr => ?_
  have Fa := Fa0 (cxOf (L2.CX P w) P w K mg base ["automaton", "%t", "classes", "samples", "state", "step", "is_final"] "least" (defScope (top 10)) fa fd.code A outer s H E).env.cells
  have Lb283 := Lb2830 (cxOf (L2.CX P w) P w K mg base ["automaton", "%t", "classes", "samples", "state", "step", "is_final"] "least" (defScope (top 10)) fa fd.code A outer s H E).env.cells
  have Lb280 := Lb2800 (cxOf (L2.CX P w) P w K mg base ["automaton", "%t", "classes", "samples", "state", "step", "is_final"] "least" (defScope (top 10)) fa fd.code A outer s H E).env.cells
  have c : Ctx (cxOf (L2.CX P w) P w K mg base ["automaton", "%t", "classes", "samples", "state", "step", "is_final"] "least" (defScope (top 10)) fa fd.code A outer s H E) (S.at (cxOf (L2.CX P w) P w K mg base ["automaton", "%t", "classes", "samples", "state", "step", "is_final"] "least" (defScope (top 10)) fa fd.code A outer s H E).env.cells) att 4 (fun cls d _ H => E cls d H) := ⟨Fa.hK, Fa.hC, hr, sc_least.nd, rfl, takes_def⟩
  have po : PassesOwn (model P w) (cxOf (L2.CX P w) P w K mg base ["automaton", "%t", "classes", "samples", "state", "step", "is_final"] "least" (defScope (top 10)) fa fd.code A outer s H E).A (cxOf (L2.CX P w) P w K mg base ["automaton", "%t", "classes", "samples", "state", "step", "is_final"] "least" (defScope (top 10)) fa fd.code A outer s H E).env (cxOf (L2.CX P w) P w K mg base ["automaton", "%t", "classes", "samples", "state", "step", "is_final"] "least" (defScope (top 10)) fa fd.code A outer s H E).xe := PassesOwn.leaving
  have nb281 : ndefB (cxOf (L2.CX P w) P w K mg base ["automaton", "%t", "classes", "samples", "state", "step", "is_final"] "least" (defScope (top 10)) fa fd.code A outer s H E).env.scope (C8.fnScope (inFn (top 10) 3)) ["automaton", "classes", "samples"] = true := (by decide +kernel : ndefB (defScope (top 10)) (C8.fnScope (inFn (top 10) 3)) ["automaton", "classes", "samples"] = true)
  have cp281 := caps_mk (X := (cxOf (L2.CX P w) P w K mg base ["automaton", "%t", "classes", "samples", "state", "step", "is_final"] "least" (defScope (top 10)) fa fd.code A outer s H E)) (S := S.at (cxOf (L2.CX P w) P w K mg base ["automaton", "%t", "classes", "samples", "state", "step", "is_final"] "least" (defScope (top 10)) fa fd.code A outer s H E).env.cells) (js := [0, 2, 3]) Fa.ni_281 Fa.fr_281 rfl nb281 rfl
  have nb282 : ndefB (cxOf (L2.CX P w) P w K mg base ["automaton", "%t", "classes", "samples", "state", "step", "is_final"] "least" (defScope (top 10)) fa fd.code A outer s H E).env.scope (C8.fnScope (inFn (top 10) 4)) ["automaton", "samples"] = true := (by decide +kernel : ndefB (defScope (top 10)) (C8.fnScope (inFn (top 10) 4)) ["automaton", "samples"] = true)
  have cp282 := caps_mk (X := (cxOf (L2.CX P w) P w K mg base ["automaton", "%t", "classes", "samples", "state", "step", "is_final"] "least" (defScope (top 10)) fa fd.code A outer s H E)) (S := S.at (cxOf (L2.CX P w) P w K mg base ["automaton", "%t", "classes", "samples", "state", "step", "is_final"] "least" (defScope (top 10)) fa fd.code A outer s H E).env.cells) (js := [0, 3]) Fa.ni_282 Fa.fr_282 rfl nb282 rfl
  exact (ss_cons (ks_asg c 2 (k_call c Lb280 rfl (k_rd (k_slot 0) a_nil)))
 (ss_cons (ks_asg c 3 (k_dnew 0))
 (ss_cons (ks_for c po (kg_name c 4) (ki_r1 Fa.m_range (k_len c Fa.m_len (k_slot 2))) fun fx => (ss_cons (s_ite (kt_cmp .nin c (k_sub c (k_slot 2) (k_slot 4)) (k_slot 3)) (ss_cons (ks_dset c 3 (k_sub c (k_slot 2) (k_slot 4)) (k_slot 4))
 ss_nil) ss_nil)
 ss_nil))
 (ss_cons (ks_defn c 1 5 281 [0, 2, 3] (p := pt) (fr := ["automaton", "classes", "samples"]) (e := rfl) hpt hut rfl Fa.nf_281 TB hcd (by rw [hnm]; rfl) nb281)
 (ss_cons (ks_defn c 1 6 282 [0, 3] (p := pt) (fr := ["automaton", "samples"]) (e := rfl) hpt hut rfl Fa.nf_282 TB hcd (by rw [hnm]; rfl) nb282)
 (ss_cons (ks_ret (k_hcall c 1 4 [(5, 281, [0, 2, 3]), (6, 282, [0, 3])] Lb283 rfl (k_rdF (k_fld (j := 1) c (k_slot 0)) (k_rdF (k_sub c (k_slot 2) (k_fld (j := 2) c (k_slot 0))) (k_fns (k_fn1 5 (k_fn1 6 k_fn0))))) (fun q hq F0 h1 h2 h3 => by simp only [List.mem_cons, List.not_mem_nil, or_false] at hq; rcases hq with rfl | rfl <;> first | exact cp281 h3 F0 h1 h2 | exact cp282 h3 F0 h1 h2)))
 ss_nil))))))
def G_actions : Env0A
  | 284 => some c_least
  | _ => none
def c_actions : Callee := runF G_actions W0 f_actions
theorem sc_actions : FnScope ["automaton", "%t", "small", "start", "words", "queue", "at", "letter", "after", "state", "one"] ["automaton"] (defScope (top 14)) := ⟨rfl, rfl, rfl, by decide +kernel, rfl, by decide +kernel, by decide +kernel⟩
theorem fn_actions (Fa : Facts K mg S) (Lb284 : LibFnT P w K mg base S [1] c_least 5 "least") {fa : Addr} {fd : FuncData} (F : Fun K "actions" "actions" (top 14) fa fd) : FnOk P w K mg base (L2.CX P w) 6 fa fd ["automaton"] (spT S [1] c_actions) := by
  refine fn_okT (k := 5) F sc_actions rfl rfl (by decide) (by decide) rfl (by decide +kernel) fun cdv A outer s H E hr => ?_
  have c : Ctx (cxOf (L2.CX P w) P w K mg base ["automaton", "%t", "small", "start", "words", "queue", "at", "letter", "after", "state", "one"] "actions" (defScope (top 14)) fa cdv A outer s H E) S att 5 (fun cls d _ H => E cls d H) := ⟨Fa.hK, Fa.hC, hr, sc_actions.nd, rfl, takes_def⟩
  have po : PassesOwn (model P w) (cxOf (L2.CX P w) P w K mg base ["automaton", "%t", "small", "start", "words", "queue", "at", "letter", "after", "state", "one"] "actions" (defScope (top 14)) fa cdv A outer s H E).A (cxOf (L2.CX P w) P w K mg base ["automaton", "%t", "small", "start", "words", "queue", "at", "letter", "after", "state", "one"] "actions" (defScope (top 14)) fa cdv A outer s H E).env (cxOf (L2.CX P w) P w K mg base ["automaton", "%t", "small", "start", "words", "queue", "at", "letter", "after", "state", "one"] "actions" (defScope (top 14)) fa cdv A outer s H E).xe := PassesOwn.leaving
  exact (ss_cons (ks_asg c 2 (k_callT c Lb284 rfl (k_rdT (k_slot 0) (k_tok 1))))
 (ss_cons (ks_asg c 3 (k_trng c Fa.m_tuple Fa.m_range (k_len c Fa.m_len (k_fld (j := 4) c (k_slot 2)))))
 (ss_cons (ks_asg c 4 (k_dlit c 2 (k_slot 3) (c_tup c_nil)))
 (ss_cons (ks_asg c 5 (c_lst (k_cons (k_slot 3) c_nil)))
 (ss_cons (ks_asg c 6 k_int)
 (ss_cons (s_while po (kt_cmp .lt c (k_slot 6) (k_len c Fa.m_len (k_slot 5))) (ss_cons (ks_for c po (kg_name c 7) (ki_r1 Fa.m_range (k_fld (j := 1) c (k_slot 2))) fun fx => (ss_cons (ks_asg c 8 (k_tuple c Fa.m_tuple (k_comp c 9 (ki_of (k_sub c (k_slot 5) (k_slot 6))) (fun s H C cl fp c => (k_sub c (k_sub c (k_fld (j := 4) c (k_slot 2)) (k_slot 9)) (k_slot 7))) (fun s H C cl fp c => t_none))))
 (ss_cons (s_ite (kt_cmp .nin c (k_slot 8) (k_slot 4)) (ss_cons (s_ite (kt_cmp .eq c (k_len c Fa.m_len (k_slot 5)) (k_glob Fa.g_MOST_ACTIONS)) (ss_cons (ks_raiseV c 2 Fa.rz_TooLarge)
 ss_nil) ss_nil)
 (ss_cons (ks_dset c 4 (k_slot 8) (k_bin .add (k_dget c (k_slot 4) (k_sub c (k_slot 5) (k_slot 6))) (c_tup (k_cons (k_slot 7) c_nil))))
 (ss_cons (ks_append c (kp_slot 5) (k_slot 8))
 ss_nil))) ss_nil)
 ss_nil)))
 (ss_cons (ks_augAdd c 6 k_int)
 ss_nil)))
 (ss_cons (ks_ret (k_comp c 10 (ki_slot 5) (fun s H C cl fp c => (c_tup (k_cons (k_dget c (k_slot 4) (k_slot 10)) (k_cons (k_slot 10) c_nil)))) (fun s H C cl fp c => t_none)))
 ss_nil)))))))
def G_settles : Env0A := fun _ => none
def c_settles : Callee := runF G_settles W0 f_settles
theorem sc_settles : FnScope ["one", "seen", "power", "state"] ["one"] (defScope (top 15)) := ⟨rfl, rfl, rfl, by decide +kernel, rfl, by decide +kernel, by decide +kernel⟩
theorem fn_settles (Fa : Facts K mg S) {fa : Addr} {fd : FuncData} (F : Fun K "settles" "settles" (top 15) fa fd) : FnOk P w K mg base (L2.CX P w) 1 fa fd ["one"] (spA S [] c_settles) := by
  refine fn_ok (k := 0) F sc_settles rfl rfl (by decide) (by decide) fun cdv A outer s H E hr => ?_
  have c : Ctx (cxOf (L2.CX P w) P w K mg base ["one", "seen", "power", "state"] "settles" (defScope (top 15)) fa cdv A outer s H E) S att 0 (fun cls d _ H => E cls d H) := ⟨Fa.hK, Fa.hC, hr, sc_settles.nd, rfl, takes_def⟩
  have po : PassesOwn (model P w) (cxOf (L2.CX P w) P w K mg base ["one", "seen", "power", "state"] "settles" (defScope (top 15)) fa cdv A outer s H E).A (cxOf (L2.CX P w) P w K mg base ["one", "seen", "power", "state"] "settles" (defScope (top 15)) fa cdv A outer s H E).env (cxOf (L2.CX P w) P w K mg base ["one", "seen", "power", "state"] "settles" (defScope (top 15)) fa cdv A outer s H E).xe := PassesOwn.leaving
  exact (ss_cons (ks_asg c 1 (k_dnew 2))
 (ss_cons (ks_asg c 2 (k_slot 0))
 (ss_cons (s_while po (kt_cmp .nin c (k_slot 2) (k_slot 1)) (ss_cons (ks_dset c 1 (k_slot 2) k_bl)
 (ss_cons (ks_asg c 2 (k_tuple c Fa.m_tuple (k_comp c 3 (ki_slot 2) (fun s H C cl fp c => (k_sub c (k_slot 0) (k_slot 3))) (fun s H C cl fp c => t_none))))
 ss_nil)))
 (ss_cons (ks_ret (k_cmp .eq c (k_tuple c Fa.m_tuple (k_comp c 3 (ki_slot 2) (fun s H C cl fp c => (k_sub c (k_slot 0) (k_slot 3))) (fun s H C cl fp c => t_none))) (k_slot 2)))
 ss_nil))))
def G_unsettled_word : Env0A
  | 325 => some c_actions
  | 326 => some c_settles
  | _ => none
def c_unsettled_word : Callee := runF G_unsettled_word W0 f_unsettled_word
theorem sc_unsettled_word : FnScope ["automaton", "%t", "word", "one"] ["automaton"] (defScope (top 16)) := ⟨rfl, rfl, rfl, by decide +kernel, rfl, by decide +kernel, by decide +kernel⟩
theorem fn_unsettled_word (Fa : Facts K mg S) (Lb325 : LibFnT P w K mg base S [1] c_actions 6 "actions") (Lb326 : LibFn P w K mg base S [] c_settles 1 "settles") {fa : Addr} {fd : FuncData} (F : Fun K "unsettled_word" "unsettled_word" (top 16) fa fd) : FnOk P w K mg base (L2.CX P w) 7 fa fd ["automaton"] (spT S [1] c_unsettled_word) := by
  refine fn_okT (k := 6) F sc_unsettled_word rfl rfl (by decide) (by decide) rfl (by decide +kernel) fun cdv A outer s H E hr => ?_
  have c : Ctx (cxOf (L2.CX P w) P w K mg base ["automaton", "%t", "word", "one"] "unsettled_word" (defScope (top 16)) fa cdv A outer s H E) S att 6 (fun cls d _ H => E cls d H) := ⟨Fa.hK, Fa.hC, hr, sc_unsettled_word.nd, rfl, takes_def⟩
  have po : PassesOwn (model P w) (cxOf (L2.CX P w) P w K mg base ["automaton", "%t", "word", "one"] "unsettled_word" (defScope (top 16)) fa cdv A outer s H E).A (cxOf (L2.CX P w) P w K mg base ["automaton", "%t", "word", "one"] "unsettled_word" (defScope (top 16)) fa cdv A outer s H E).env (cxOf (L2.CX P w) P w K mg base ["automaton", "%t", "word", "one"] "unsettled_word" (defScope (top 16)) fa cdv A outer s H E).xe := PassesOwn.leaving
  exact (ss_cons (ks_for c po (kg_two c 2 3 (kg_name c 2) (kg_name c 3)) (ki_of (k_callT c Lb325 rfl (k_rdT (k_slot 0) (k_tok 1)))) fun fx => (ss_cons (s_ite (t_not (kt_val (k_call c Lb326 rfl (k_rd (k_slot 3) a_nil)))) (ss_cons (ks_retS 2)
 ss_nil) ss_nil)
 ss_nil))
 (ss_cons (ks_ret k_non)
 ss_nil))
def G_l_rests : Env0A := fun _ => none
def c_l_rests : Callee := runF G_l_rests W0 f_l_rests
theorem sc_l_rests : FnScope ["_law_one", "_law_power", "_law_k", "_law_after", "_law_state"] ["_law_one"] (defScope (top 27)) := ⟨rfl, rfl, rfl, by decide +kernel, rfl, by decide +kernel, by decide +kernel⟩
theorem fn_l_rests (Fa : Facts K mg S) {fa : Addr} {fd : FuncData} (F : Fun K "_law_rests" "_law_rests" (top 27) fa fd) : FnOk P w K mg base (L2.CX P w) 1 fa fd ["_law_one"] (spA S [] c_l_rests) := by
  refine fn_ok (k := 0) F sc_l_rests rfl rfl (by decide) (by decide) fun cdv A outer s H E hr => ?_
  have c : Ctx (cxOf (L2.CX P w) P w K mg base ["_law_one", "_law_power", "_law_k", "_law_after", "_law_state"] "_law_rests" (defScope (top 27)) fa cdv A outer s H E) S att 0 (fun cls d _ H => E cls d H) := ⟨Fa.hK, Fa.hC, hr, sc_l_rests.nd, rfl, takes_def⟩
  have po : PassesOwn (model P w) (cxOf (L2.CX P w) P w K mg base ["_law_one", "_law_power", "_law_k", "_law_after", "_law_state"] "_law_rests" (defScope (top 27)) fa cdv A outer s H E).A (cxOf (L2.CX P w) P w K mg base ["_law_one", "_law_power", "_law_k", "_law_after", "_law_state"] "_law_rests" (defScope (top 27)) fa cdv A outer s H E).env (cxOf (L2.CX P w) P w K mg base ["_law_one", "_law_power", "_law_k", "_law_after", "_law_state"] "_law_rests" (defScope (top 27)) fa cdv A outer s H E).xe := PassesOwn.leaving
  exact (ss_cons (ks_asg c 1 (k_slot 0))
 (ss_cons (ks_for c po (kg_name c 2) (ki_r1 Fa.m_range (k_bin .add (k_len c Fa.m_len (k_slot 0)) k_int)) fun fx => (ss_cons (ks_asg c 3 (k_tuple c Fa.m_tuple (k_comp c 4 (ki_slot 1) (fun s H C cl fp c => (k_sub c (k_slot 0) (k_slot 4))) (fun s H C cl fp c => t_none))))
 (ss_cons (s_ite (kt_cmp .eq c (k_slot 3) (k_slot 1)) (ss_cons (ks_ret k_bl)
 ss_nil) ss_nil)
 (ss_cons (ks_asg c 1 (k_slot 3))
 ss_nil))))
 (ss_cons (ks_ret k_bl)
 ss_nil)))
def G_l_outcomeqqqqqqq : Env0A
  | 325 => some c_actions
  | _ => none
def c_l_outcomeqqqqqqq : Callee := runF G_l_outcomeqqqqqqq W0 f_l_outcomeqqqqqqq
theorem sc_l_outcomeqqqqqqq : FnScope ["_law_automaton", "%t"] ["_law_automaton"] (defScope (top 25)) := ⟨rfl, rfl, rfl, by decide +kernel, rfl, by decide +kernel, by decide +kernel⟩
theorem fn_l_outcomeqqqqqqq (Fa : Facts K mg S) (Lb325 : LibFnT P w K mg base S [1] c_actions 6 "actions") {fa : Addr} {fd : FuncData} (F : Fun K "_law_outcome" "_law_outcome" (top 25) fa fd) : FnOk P w K mg base (L2.CX P w) 7 fa fd ["_law_automaton"] (spT S [1] c_l_outcomeqqqqqqq) := by
  refine fn_okT (k := 6) F sc_l_outcomeqqqqqqq rfl rfl (by decide) (by decide) rfl (by decide +kernel) fun cdv A outer s H E hr => ?_
  have c : Ctx (cxOf (L2.CX P w) P w K mg base ["_law_automaton", "%t"] "_law_outcome" (defScope (top 25)) fa cdv A outer s H E) S att 6 (fun cls d _ H => E cls d H) := ⟨Fa.hK, Fa.hC, hr, sc_l_outcomeqqqqqqq.nd, rfl, takes_def⟩
  have po : PassesOwn (model P w) (cxOf (L2.CX P w) P w K mg base ["_law_automaton", "%t"] "_law_outcome" (defScope (top 25)) fa cdv A outer s H E).A (cxOf (L2.CX P w) P w K mg base ["_law_automaton", "%t"] "_law_outcome" (defScope (top 25)) fa cdv A outer s H E).env (cxOf (L2.CX P w) P w K mg base ["_law_automaton", "%t"] "_law_outcome" (defScope (top 25)) fa cdv A outer s H E).xe := PassesOwn.leaving
  exact (ss_cons (s_tryOnly Fa.ct_TooLarge c rfl rfl (by exact rfl) (by decide) (by exact rfl) (fun W1 pn xe c po => (k_callT c Lb325 rfl (k_rdT (k_slot 0) (k_tok 1)))) (fun a pn => (ss_cons (ks_ret k_non)
 ss_nil)))
 ss_nil)
def G_l_smallest : Env0A := fun _ => none
def c_l_smallest : Callee := runF G_l_smallest W0 f_l_smallest
theorem sc_l_smallest : FnScope ["_law_automaton", "_law_start", "_law_finals", "_law_rows", "_law_classes", "_law_k", "_law_turn", "_law_signs", "_law_target", "_law_order", "_law_sign", "_law_found", "_law_table_here", "_law_at", "_law_state", "_law_row", "_law_ends"] ["_law_automaton"] (defScope (top 24)) := ⟨rfl, rfl, rfl, by decide +kernel, rfl, by decide +kernel, by decide +kernel⟩
theorem fn_l_smallest (Fa : Facts K mg S) {fa : Addr} {fd : FuncData} (F : Fun K "_law_smallest" "_law_smallest" (top 24) fa fd) : FnOk P w K mg base (L2.CX P w) 1 fa fd ["_law_automaton"] (spA S [] c_l_smallest) := by
  refine fn_ok (k := 0) F sc_l_smallest rfl rfl (by decide) (by decide) fun cdv A outer s H E hr => ?_
  have c : Ctx (cxOf (L2.CX P w) P w K mg base ["_law_automaton", "_law_start", "_law_finals", "_law_rows", "_law_classes", "_law_k", "_law_turn", "_law_signs", "_law_target", "_law_order", "_law_sign", "_law_found", "_law_table_here", "_law_at", "_law_state", "_law_row", "_law_ends"] "_law_smallest" (defScope (top 24)) fa cdv A outer s H E) S att 0 (fun cls d _ H => E cls d H) := ⟨Fa.hK, Fa.hC, hr, sc_l_smallest.nd, rfl, takes_def⟩
  have po : PassesOwn (model P w) (cxOf (L2.CX P w) P w K mg base ["_law_automaton", "_law_start", "_law_finals", "_law_rows", "_law_classes", "_law_k", "_law_turn", "_law_signs", "_law_target", "_law_order", "_law_sign", "_law_found", "_law_table_here", "_law_at", "_law_state", "_law_row", "_law_ends"] "_law_smallest" (defScope (top 24)) fa cdv A outer s H E).A (cxOf (L2.CX P w) P w K mg base ["_law_automaton", "_law_start", "_law_finals", "_law_rows", "_law_classes", "_law_k", "_law_turn", "_law_signs", "_law_target", "_law_order", "_law_sign", "_law_found", "_law_table_here", "_law_at", "_law_state", "_law_row", "_law_ends"] "_law_smallest" (defScope (top 24)) fa cdv A outer s H E).env (cxOf (L2.CX P w) P w K mg base ["_law_automaton", "_law_start", "_law_finals", "_law_rows", "_law_classes", "_law_k", "_law_turn", "_law_signs", "_law_target", "_law_order", "_law_sign", "_law_found", "_law_table_here", "_law_at", "_law_state", "_law_row", "_law_ends"] "_law_smallest" (defScope (top 24)) fa cdv A outer s H E).xe := PassesOwn.leaving
  exact (ss_cons (ks_asgT (kg_trip c 1 2 3 (kg_name c 1) (kg_name c 2) (kg_name c 3)) (k_slot 0))
 (ss_cons (ks_asg c 4 (k_comp c 5 (ki_r1 Fa.m_range (k_len c Fa.m_len (k_slot 3))) (fun s H C cl fp c => (k_intF Fa.m_int (k_cmp .inn c (k_slot 5) (k_slot 2)))) (fun s H C cl fp c => t_none)))
 (ss_cons (ks_for c po (kg_name c 6) (ki_r1 Fa.m_range (k_len c Fa.m_len (k_slot 3))) fun fx => (ss_cons (ks_setLc c 7 5 (ki_r1 Fa.m_range (k_len c Fa.m_len (k_slot 3))) (fun s H C cl fp c => (c_tup (k_cons (k_sub c (k_slot 4) (k_slot 5)) (k_cons (k_tuple c Fa.m_tuple (k_comp c 8 (ki_of (k_sub c (k_slot 3) (k_slot 5))) (fun s H C cl fp c => (k_sub c (k_slot 4) (k_slot 8))) (fun s H C cl fp c => t_none))) c_nil)))) (fun s H C cl fp c => t_none))
 (ss_cons (ks_asg c 9 (c_lst c_nil))
 (ss_cons (ks_for c po (kg_name c 10) (ki_slot 7) fun fx => (ss_cons (s_ite (kt_cmp .nin c (k_slot 10) (k_slot 9)) (ss_cons (ks_append c (kp_slot 9) (k_slot 10))
 ss_nil) ss_nil)
 ss_nil))
 (ss_cons (ks_asg c 4 (k_comp c 10 (ki_slot 7) (fun s H C cl fp c => (k_idx c (k_slot 9) (k_slot 10))) (fun s H C cl fp c => t_none)))
 ss_nil)))))
 (ss_cons (ks_asg c 11 (c_lst (k_cons (k_sub c (k_slot 4) (k_slot 1)) c_nil)))
 (ss_cons (ks_asg c 12 (c_lst c_nil))
 (ss_cons (ks_for c po (kg_name c 13) (ki_r1 Fa.m_range (k_len c Fa.m_len (k_slot 3))) fun fx => (ss_cons (s_ite (kt_cmp .lt c (k_slot 13) (k_len c Fa.m_len (k_slot 11))) (ss_cons (ks_asg c 14 (k_idx c (k_slot 4) (k_sub c (k_slot 11) (k_slot 13))))
 (ss_cons (ks_asg c 15 (c_lst c_nil))
 (ss_cons (ks_for c po (kg_name c 8) (ki_of (k_sub c (k_slot 3) (k_slot 14))) fun fx => (ss_cons (s_ite (kt_cmp .nin c (k_sub c (k_slot 4) (k_slot 8)) (k_slot 11)) (ss_cons (ks_append c (kp_slot 11) (k_sub c (k_slot 4) (k_slot 8)))
 ss_nil) ss_nil)
 (ss_cons (ks_append c (kp_slot 15) (k_idx c (k_slot 11) (k_sub c (k_slot 4) (k_slot 8))))
 ss_nil)))
 (ss_cons (ks_append c (kp_slot 12) (k_tuple c Fa.m_tuple (k_slot 15)))
 ss_nil)))) ss_nil)
 ss_nil))
 (ss_cons (ks_setLc c 16 5 (ki_r1 Fa.m_range (k_len c Fa.m_len (k_slot 11))) (fun s H C cl fp c => (k_slot 5)) (fun s H C cl fp c => t_some (kt_cmp .inn c (k_idx c (k_slot 4) (k_sub c (k_slot 11) (k_slot 5))) (k_slot 2))))
 (ss_cons (ks_ret (c_tup (k_cons k_int (k_cons (k_tuple c Fa.m_tuple (k_slot 16)) (k_cons (k_tuple c Fa.m_tuple (k_slot 12)) c_nil)))))
 ss_nil))))))))
def G_l_table : Env0A
  | 64 => some c_l_smallest
  | _ => none
def c_l_table : Callee := runF G_l_table W0 f_l_table
theorem sc_l_table : FnScope ["_law_automaton", "_law_start", "_law_finals", "_law_rows", "_law_first", "_law_found", "_law_seen", "_law_at", "_law_letter", "_law_after", "_law_state"] ["_law_automaton"] (defScope (top 26)) := ⟨rfl, rfl, rfl, by decide +kernel, rfl, by decide +kernel, by decide +kernel⟩
theorem fn_l_table (Fa : Facts K mg S) (Lb64 : LibFn P w K mg base S [] c_l_smallest 1 "_law_smallest") {fa : Addr} {fd : FuncData} (F : Fun K "_law_table" "_law_table" (top 26) fa fd) : FnOk P w K mg base (L2.CX P w) 2 fa fd ["_law_automaton"] (spA S [] c_l_table) := by
  refine fn_ok (k := 1) F sc_l_table rfl rfl (by decide) (by decide) fun cdv A outer s H E hr => ?_
  have c : Ctx (cxOf (L2.CX P w) P w K mg base ["_law_automaton", "_law_start", "_law_finals", "_law_rows", "_law_first", "_law_found", "_law_seen", "_law_at", "_law_letter", "_law_after", "_law_state"] "_law_table" (defScope (top 26)) fa cdv A outer s H E) S att 1 (fun cls d _ H => E cls d H) := ⟨Fa.hK, Fa.hC, hr, sc_l_table.nd, rfl, takes_def⟩
  have po : PassesOwn (model P w) (cxOf (L2.CX P w) P w K mg base ["_law_automaton", "_law_start", "_law_finals", "_law_rows", "_law_first", "_law_found", "_law_seen", "_law_at", "_law_letter", "_law_after", "_law_state"] "_law_table" (defScope (top 26)) fa cdv A outer s H E).A (cxOf (L2.CX P w) P w K mg base ["_law_automaton", "_law_start", "_law_finals", "_law_rows", "_law_first", "_law_found", "_law_seen", "_law_at", "_law_letter", "_law_after", "_law_state"] "_law_table" (defScope (top 26)) fa cdv A outer s H E).env (cxOf (L2.CX P w) P w K mg base ["_law_automaton", "_law_start", "_law_finals", "_law_rows", "_law_first", "_law_found", "_law_seen", "_law_at", "_law_letter", "_law_after", "_law_state"] "_law_table" (defScope (top 26)) fa cdv A outer s H E).xe := PassesOwn.leaving
  exact (ss_cons (ks_asgT (kg_trip c 1 2 3 (kg_name c 1) (kg_name c 2) (kg_name c 3)) (k_call c Lb64 rfl (k_rd (k_slot 0) a_nil)))
 (ss_cons (ks_asg c 4 (k_trng c Fa.m_tuple Fa.m_range (k_len c Fa.m_len (k_slot 3))))
 (ss_cons (ks_asg c 5 (c_lst (k_cons (c_tup (k_cons (c_tup c_nil) (k_cons (k_slot 4) c_nil))) c_nil)))
 (ss_cons (ks_asg c 6 (k_dlit c 2 (k_slot 4) k_bl))
 (ss_cons (ks_for c po (kg_name c 7) (ki_r1 Fa.m_range k_int) fun fx => (ss_cons (s_ite (t_and (kt_cmp .lt c (k_slot 7) (k_len c Fa.m_len (k_slot 5))) (pw_and1 (kt_cmp .le c (k_len c Fa.m_len (k_slot 5)) k_int))).pt (ss_cons (ks_for c po (kg_name c 8) (ki_r1 Fa.m_range (k_len c Fa.m_len (k_sub c (k_slot 3) k_int))) fun fx => (ss_cons (ks_asg c 9 (k_tuple c Fa.m_tuple (k_comp c 10 (ki_of (k_sub c (k_sub c (k_slot 5) (k_slot 7)) k_int)) (fun s H C cl fp c => (k_sub c (k_sub c (k_slot 3) (k_slot 10)) (k_slot 8))) (fun s H C cl fp c => t_none))))
 (ss_cons (s_ite (kt_cmp .nin c (k_slot 9) (k_slot 6)) (ss_cons (ks_dset c 6 (k_slot 9) k_bl)
 (ss_cons (ks_append c (kp_slot 5) (c_tup (k_cons (k_bin .add (k_sub c (k_sub c (k_slot 5) (k_slot 7)) k_int) (c_tup (k_cons (k_slot 8) c_nil))) (k_cons (k_slot 9) c_nil))))
 ss_nil)) ss_nil)
 ss_nil)))
 ss_nil) ss_nil)
 ss_nil))
 (ss_cons (ks_retS 5)
 ss_nil))))))
def G_action : Env0A := fun _ => none
def c_action : Callee := runF G_action W0 f_action
theorem sc_action : FnScope ["automaton", "word", "found", "letter", "state"] ["automaton", "word"] (defScope (top 13)) := ⟨rfl, rfl, rfl, by decide +kernel, rfl, by decide +kernel, by decide +kernel⟩
theorem fn_action (Fa : Facts K mg S) {fa : Addr} {fd : FuncData} (F : Fun K "action" "action" (top 13) fa fd) : FnOk P w K mg base (L2.CX P w) 1 fa fd ["automaton", "word"] (spA S [] c_action) := by
  refine fn_ok (k := 0) F sc_action rfl rfl (by decide) (by decide) fun cdv A outer s H E hr => ?_
  have c : Ctx (cxOf (L2.CX P w) P w K mg base ["automaton", "word", "found", "letter", "state"] "action" (defScope (top 13)) fa cdv A outer s H E) S att 0 (fun cls d _ H => E cls d H) := ⟨Fa.hK, Fa.hC, hr, sc_action.nd, rfl, takes_def⟩
  have po : PassesOwn (model P w) (cxOf (L2.CX P w) P w K mg base ["automaton", "word", "found", "letter", "state"] "action" (defScope (top 13)) fa cdv A outer s H E).A (cxOf (L2.CX P w) P w K mg base ["automaton", "word", "found", "letter", "state"] "action" (defScope (top 13)) fa cdv A outer s H E).env (cxOf (L2.CX P w) P w K mg base ["automaton", "word", "found", "letter", "state"] "action" (defScope (top 13)) fa cdv A outer s H E).xe := PassesOwn.leaving
  exact (ss_cons (ks_asg c 2 (k_lrng c Fa.m_list Fa.m_range (k_len c Fa.m_len (k_fld (j := 4) c (k_slot 0)))))
 (ss_cons (ks_for c po (kg_name c 3) (ki_slot 1) fun fx => (ss_cons (ks_setLc c 2 4 (ki_slot 2) (fun s H C cl fp c => (k_sub c (k_sub c (k_fld (j := 4) c (k_slot 0)) (k_slot 4)) (k_slot 3))) (fun s H C cl fp c => t_none))
 ss_nil))
 (ss_cons (ks_ret (k_tuple c Fa.m_tuple (k_slot 2)))
 ss_nil)))
def G_l_run : Env0A := fun _ => none
def c_l_run : Callee := runF G_l_run W0 f_l_run
theorem sc_l_run : FnScope ["_law_automaton", "_law_word_here", "_law_state", "_law_letter"] ["_law_automaton", "_law_word_here"] (defScope (top 21)) := ⟨rfl, rfl, rfl, by decide +kernel, rfl, by decide +kernel, by decide +kernel⟩
theorem fn_l_run (Fa : Facts K mg S) {fa : Addr} {fd : FuncData} (F : Fun K "_law_run" "_law_run" (top 21) fa fd) : FnOk P w K mg base (L2.CX P w) 1 fa fd ["_law_automaton", "_law_word_here"] (spA S [] c_l_run) := by
  refine fn_ok (k := 0) F sc_l_run rfl rfl (by decide) (by decide) fun cdv A outer s H E hr => ?_
  have c : Ctx (cxOf (L2.CX P w) P w K mg base ["_law_automaton", "_law_word_here", "_law_state", "_law_letter"] "_law_run" (defScope (top 21)) fa cdv A outer s H E) S att 0 (fun cls d _ H => E cls d H) := ⟨Fa.hK, Fa.hC, hr, sc_l_run.nd, rfl, takes_def⟩
  have po : PassesOwn (model P w) (cxOf (L2.CX P w) P w K mg base ["_law_automaton", "_law_word_here", "_law_state", "_law_letter"] "_law_run" (defScope (top 21)) fa cdv A outer s H E).A (cxOf (L2.CX P w) P w K mg base ["_law_automaton", "_law_word_here", "_law_state", "_law_letter"] "_law_run" (defScope (top 21)) fa cdv A outer s H E).env (cxOf (L2.CX P w) P w K mg base ["_law_automaton", "_law_word_here", "_law_state", "_law_letter"] "_law_run" (defScope (top 21)) fa cdv A outer s H E).xe := PassesOwn.leaving
  exact (ss_cons (ks_asg c 2 (k_sub c (k_slot 0) k_int))
 (ss_cons (ks_for c po (kg_name c 3) (ki_slot 1) fun fx => (ss_cons (ks_asg c 2 (k_sub c (k_sub c (k_sub c (k_slot 0) k_int) (k_slot 2)) (k_slot 3)))
 ss_nil))
 (ss_cons (ks_retS 2)
 ss_nil)))
def G_l_take : Env0A := fun _ => none
def c_l_take : Callee := runF G_l_take W0 f_l_take
theorem sc_l_take : FnScope ["_law_draws_here", "_law_limit"] ["_law_draws_here", "_law_limit"] (defScope (top 19)) := ⟨rfl, rfl, rfl, by decide +kernel, rfl, by decide +kernel, by decide +kernel⟩
theorem fn_l_take (Fa : Facts K mg S) {fa : Addr} {fd : FuncData} (F : Fun K "_law_take" "_law_take" (top 19) fa fd) : FnOk P w K mg base (L2.CX P w) 1 fa fd ["_law_draws_here", "_law_limit"] (spA S [0] c_l_take) := by
  refine fn_ok (k := 0) F sc_l_take rfl rfl (by decide) (by decide) fun cdv A outer s H E hr => ?_
  have c : Ctx (cxOf (L2.CX P w) P w K mg base ["_law_draws_here", "_law_limit"] "_law_take" (defScope (top 19)) fa cdv A outer s H E) S att 0 (fun cls d _ H => E cls d H) := ⟨Fa.hK, Fa.hC, hr, sc_l_take.nd, rfl, takes_def⟩
  have po : PassesOwn (model P w) (cxOf (L2.CX P w) P w K mg base ["_law_draws_here", "_law_limit"] "_law_take" (defScope (top 19)) fa cdv A outer s H E).A (cxOf (L2.CX P w) P w K mg base ["_law_draws_here", "_law_limit"] "_law_take" (defScope (top 19)) fa cdv A outer s H E).env (cxOf (L2.CX P w) P w K mg base ["_law_draws_here", "_law_limit"] "_law_take" (defScope (top 19)) fa cdv A outer s H E).xe := PassesOwn.leaving
  exact (ss_cons (s_ite (kt_cmp .eq c (k_len c Fa.m_len (k_slot 0)) k_int) (ss_cons (ks_ret k_int)
 ss_nil) ss_nil)
 (ss_cons (ks_ret (k_bin .mod (k_intF Fa.m_int (k_pop 0)) (k_slot 1)))
 ss_nil))
def G_l_word : Env0A
  | 6 => some c_l_take
  | _ => none
def c_l_word : Callee := runF G_l_word W0 f_l_word
theorem sc_l_word : FnScope ["_law_draws_here", "_law_letters", "_law_most", "_law_k"] ["_law_draws_here", "_law_letters", "_law_most"] (defScope (top 20)) := ⟨rfl, rfl, rfl, by decide +kernel, rfl, by decide +kernel, by decide +kernel⟩
theorem fn_l_word (Fa : Facts K mg S) (Lb6 : LibFn P w K mg base S [0] c_l_take 1 "_law_take") {fa : Addr} {fd : FuncData} (F : Fun K "_law_word" "_law_word" (top 20) fa fd) : FnOk P w K mg base (L2.CX P w) 2 fa fd ["_law_draws_here", "_law_letters", "_law_most"] (spA S [0] c_l_word) := by
  refine fn_ok (k := 1) F sc_l_word rfl rfl (by decide) (by decide) fun cdv A outer s H E hr => ?_
  have c : Ctx (cxOf (L2.CX P w) P w K mg base ["_law_draws_here", "_law_letters", "_law_most", "_law_k"] "_law_word" (defScope (top 20)) fa cdv A outer s H E) S att 1 (fun cls d _ H => E cls d H) := ⟨Fa.hK, Fa.hC, hr, sc_l_word.nd, rfl, takes_def⟩
  have po : PassesOwn (model P w) (cxOf (L2.CX P w) P w K mg base ["_law_draws_here", "_law_letters", "_law_most", "_law_k"] "_law_word" (defScope (top 20)) fa cdv A outer s H E).A (cxOf (L2.CX P w) P w K mg base ["_law_draws_here", "_law_letters", "_law_most", "_law_k"] "_law_word" (defScope (top 20)) fa cdv A outer s H E).env (cxOf (L2.CX P w) P w K mg base ["_law_draws_here", "_law_letters", "_law_most", "_law_k"] "_law_word" (defScope (top 20)) fa cdv A outer s H E).xe := PassesOwn.leaving
  exact (ss_cons (ks_ret (k_tuple c Fa.m_tuple (k_comp c 3 (ki_r1 Fa.m_range (k_call c Lb6 rfl (k_mv 0 (k_rd (k_bin .add (k_slot 2) k_int) a_nil)))) (fun s H C cl fp c => (k_call c Lb6 rfl (k_mv 0 (k_rd (k_slot 1) a_nil)))) (fun s H C cl fp c => t_none))))
 ss_nil)
def G_l_made : Env0A
  | 58 => some c_Automaton_init
  | _ => none
def c_l_made : Callee := runF G_l_made W0 f_l_made
theorem sc_l_made : FnScope ["_law_letters", "_law_automaton", "_law_row"] ["_law_letters", "_law_automaton"] (defScope (top 23)) := ⟨rfl, rfl, rfl, by decide +kernel, rfl, by decide +kernel, by decide +kernel⟩
theorem fn_l_made (Fa : Facts K mg S) (Lb58 : LibCls P w K mg base S 1 c_Automaton_init 2 "Automaton") {fa : Addr} {fd : FuncData} (F : Fun K "_law_made" "_law_made" (top 23) fa fd) : FnOk P w K mg base (L2.CX P w) 4 fa fd ["_law_letters", "_law_automaton"] (spA S [] c_l_made) := by
  refine fn_ok (k := 3) F sc_l_made rfl rfl (by decide) (by decide) fun cdv A outer s H E hr => ?_
  have c : Ctx (cxOf (L2.CX P w) P w K mg base ["_law_letters", "_law_automaton", "_law_row"] "_law_made" (defScope (top 23)) fa cdv A outer s H E) S att 3 (fun cls d _ H => E cls d H) := ⟨Fa.hK, Fa.hC, hr, sc_l_made.nd, rfl, takes_def⟩
  have po : PassesOwn (model P w) (cxOf (L2.CX P w) P w K mg base ["_law_letters", "_law_automaton", "_law_row"] "_law_made" (defScope (top 23)) fa cdv A outer s H E).A (cxOf (L2.CX P w) P w K mg base ["_law_letters", "_law_automaton", "_law_row"] "_law_made" (defScope (top 23)) fa cdv A outer s H E).env (cxOf (L2.CX P w) P w K mg base ["_law_letters", "_law_automaton", "_law_row"] "_law_made" (defScope (top 23)) fa cdv A outer s H E).xe := PassesOwn.leaving
  exact (ss_cons (ks_ret (k_make c Lb58 rfl (k_rd (k_len c Fa.m_len (k_slot 0)) (k_rd (k_sub c (k_slot 1) k_int) (k_rd (k_list c Fa.m_list (k_sub c (k_slot 1) k_int)) (k_rd (k_comp c 2 (ki_of (k_sub c (k_slot 1) k_int)) (fun s H C cl fp c => (k_list c Fa.m_list (k_slot 2))) (fun s H C cl fp c => t_none)) a_nil))))))
 ss_nil)
def G_l_any_automaton : Env0A
  | 6 => some c_l_take
  | _ => none
def c_l_any_automaton : Callee := runF G_l_any_automaton W0 f_l_any_automaton
theorem sc_l_any_automaton : FnScope ["_law_draws_here", "_law_letters", "_law_most", "_law_size", "_law_rows", "_law_letter", "_law_k", "_law_finals"] ["_law_draws_here", "_law_letters", "_law_most"] (defScope (top 22)) := ⟨rfl, rfl, rfl, by decide +kernel, rfl, by decide +kernel, by decide +kernel⟩
theorem fn_l_any_automaton (Fa : Facts K mg S) (Lb6 : LibFn P w K mg base S [0] c_l_take 1 "_law_take") {fa : Addr} {fd : FuncData} (F : Fun K "_law_any_automaton" "_law_any_automaton" (top 22) fa fd) : FnOk P w K mg base (L2.CX P w) 2 fa fd ["_law_draws_here", "_law_letters", "_law_most"] (spA S [0] c_l_any_automaton) := by
  refine fn_ok (k := 1) F sc_l_any_automaton rfl rfl (by decide) (by decide) fun cdv A outer s H E hr => ?_
  have c : Ctx (cxOf (L2.CX P w) P w K mg base ["_law_draws_here", "_law_letters", "_law_most", "_law_size", "_law_rows", "_law_letter", "_law_k", "_law_finals"] "_law_any_automaton" (defScope (top 22)) fa cdv A outer s H E) S att 1 (fun cls d _ H => E cls d H) := ⟨Fa.hK, Fa.hC, hr, sc_l_any_automaton.nd, rfl, takes_def⟩
  have po : PassesOwn (model P w) (cxOf (L2.CX P w) P w K mg base ["_law_draws_here", "_law_letters", "_law_most", "_law_size", "_law_rows", "_law_letter", "_law_k", "_law_finals"] "_law_any_automaton" (defScope (top 22)) fa cdv A outer s H E).A (cxOf (L2.CX P w) P w K mg base ["_law_draws_here", "_law_letters", "_law_most", "_law_size", "_law_rows", "_law_letter", "_law_k", "_law_finals"] "_law_any_automaton" (defScope (top 22)) fa cdv A outer s H E).env (cxOf (L2.CX P w) P w K mg base ["_law_draws_here", "_law_letters", "_law_most", "_law_size", "_law_rows", "_law_letter", "_law_k", "_law_finals"] "_law_any_automaton" (defScope (top 22)) fa cdv A outer s H E).xe := PassesOwn.leaving
  exact (ss_cons (ks_asg c 3 (k_bin .add k_int (k_call c Lb6 rfl (k_mv 0 (k_rd (k_slot 2) a_nil)))))
 (ss_cons (ks_setLc c 4 6 (ki_r1 Fa.m_range (k_slot 3)) (fun s H C cl fp c => (k_comp c 5 (ki_r1 Fa.m_range (k_slot 1)) (fun s H C cl fp c => (k_call c Lb6 rfl (k_mv 0 (k_rd (k_slot 3) a_nil)))) (fun s H C cl fp c => t_none))) (fun s H C cl fp c => t_none))
 (ss_cons (ks_setLc c 7 6 (ki_r1 Fa.m_range (k_slot 3)) (fun s H C cl fp c => (k_slot 6)) (fun s H C cl fp c => t_some (kt_cmp .eq c (k_call c Lb6 rfl (k_mv 0 (k_rd k_int a_nil))) k_int)))
 (ss_cons (ks_ret (c_tup (k_cons (k_call c Lb6 rfl (k_mv 0 (k_rd (k_slot 3) a_nil))) (k_cons (k_slot 7) (k_cons (k_slot 4) c_nil)))))
 ss_nil))))
def G_l_draws : Env0A := fun _ => none
def c_l_draws : Callee := runF G_l_draws W0 f_l_draws
theorem sc_l_draws : FnScope ["_law_script", "_law_count", "_law_cells", "_law_found", "_law_mixed", "_law_k", "_law_j", "_law_cell", "_law_again"] ["_law_script", "_law_count"] (defScope (top 18)) := ⟨rfl, rfl, rfl, by decide +kernel, rfl, by decide +kernel, by decide +kernel⟩
theorem fn_l_draws (Fa : Facts K mg S) {fa : Addr} {fd : FuncData} (F : Fun K "_law_draws" "_law_draws" (top 18) fa fd) : FnOk P w K mg base (L2.CX P w) 1 fa fd ["_law_script", "_law_count"] (spA S [] c_l_draws) := by
  refine fn_ok (k := 0) F sc_l_draws rfl rfl (by decide) (by decide) fun cdv A outer s H E hr => ?_
  have c : Ctx (cxOf (L2.CX P w) P w K mg base ["_law_script", "_law_count", "_law_cells", "_law_found", "_law_mixed", "_law_k", "_law_j", "_law_cell", "_law_again"] "_law_draws" (defScope (top 18)) fa cdv A outer s H E) S att 0 (fun cls d _ H => E cls d H) := ⟨Fa.hK, Fa.hC, hr, sc_l_draws.nd, rfl, takes_def⟩
  have po : PassesOwn (model P w) (cxOf (L2.CX P w) P w K mg base ["_law_script", "_law_count", "_law_cells", "_law_found", "_law_mixed", "_law_k", "_law_j", "_law_cell", "_law_again"] "_law_draws" (defScope (top 18)) fa cdv A outer s H E).A (cxOf (L2.CX P w) P w K mg base ["_law_script", "_law_count", "_law_cells", "_law_found", "_law_mixed", "_law_k", "_law_j", "_law_cell", "_law_again"] "_law_draws" (defScope (top 18)) fa cdv A outer s H E).env (cxOf (L2.CX P w) P w K mg base ["_law_script", "_law_count", "_law_cells", "_law_found", "_law_mixed", "_law_k", "_law_j", "_law_cell", "_law_again"] "_law_draws" (defScope (top 18)) fa cdv A outer s H E).xe := PassesOwn.leaving
  exact (ss_cons (ks_asg c 2 (k_list c Fa.m_list (k_slot 0)))
 (ss_cons (s_ite (kt_cmp .eq c (k_len c Fa.m_len (k_slot 2)) k_int) (ss_cons (ks_asg c 2 (c_lst (k_cons k_int c_nil)))
 ss_nil) ss_nil)
 (ss_cons (ks_asg c 3 (c_lst c_nil))
 (ss_cons (ks_asg c 4 k_int)
 (ss_cons (ks_for c po (kg_name c 5) (ki_r1 Fa.m_range (k_slot 1)) fun fx => (ss_cons (ks_asg c 6 (k_bin .mod (k_slot 5) (k_len c Fa.m_len (k_slot 2))))
 (ss_cons (ks_asg c 7 (k_sub c (k_slot 2) (k_slot 6)))
 (ss_cons (ks_asg c 4 (k_bin .mod (k_intF Fa.m_int (k_bin .add (k_bin .add (k_bin .add (k_bin .mul (k_slot 4) k_int) (k_bin .mul (k_bin .mod (k_intF Fa.m_int (k_slot 7)) k_int) k_int)) (k_bin .mul (k_slot 5) k_int)) k_int)) k_int))
 (ss_cons (ks_asg c 8 (k_bin .mod (k_intF Fa.m_int (k_bin .add (k_bin .add (k_bin .mul (k_slot 4) (k_slot 4)) (k_bin .mul k_int (k_slot 4))) (k_slot 5))) k_int))
 (ss_cons (s_ite (kt_cmp .ge c (k_slot 7) (k_bin .pow k_int k_int)) (ss_cons (ks_append c (kp_slot 3) (k_bin .mod (k_intF Fa.m_int (k_slot 7)) k_int))
 (ss_cons (ks_setI c (kp_slot 2) (k_slot 6) (k_bin .fdiv (k_slot 7) k_int))
 ss_nil)) (ss_cons (ks_append c (kp_slot 3) (k_bin .mod (k_intF Fa.m_int (k_slot 8)) k_int))
 ss_nil))
 ss_nil))))))
 (ss_cons (ks_reverse c (kp_slot 3))
 (ss_cons (ks_retS 3)
 ss_nil)))))))
def G_law_k30 : Env0A
  | 327 => some c_unsettled_word
  | 153 => some c_l_rests
  | 328 => some c_l_outcomeqqqqqqq
  | 329 => some c_l_table
  | 247 => some c_action
  | 61 => some c_l_run
  | 14 => some c_l_word
  | 66 => some c_l_made
  | 63 => some c_l_any_automaton
  | 6 => some c_l_take
  | 5 => some c_l_draws
  | _ => none
def c_law_k30 : Callee := runF G_law_k30 W0 f_law_k30
theorem sc_law_k30 : FnScope ["_law_script", "%t", "_law_draws_here", "_law_letters", "_law_automaton", "_law_made_here", "_law_word_here", "_law_due", "_law_state", "_law_table_here", "_law_found", "_law_loose", "_law_row"] ["_law_script"] (defScope (top 28)) := ⟨rfl, rfl, rfl, by decide +kernel, rfl, by decide +kernel, by decide +kernel⟩
theorem fn_law_k30 (Fa : Facts K mg S) (Lb327 : LibFnT P w K mg base S [1] c_unsettled_word 7 "unsettled_word") (Lb153 : LibFn P w K mg base S [] c_l_rests 1 "_law_rests") (Lb328 : LibFnT P w K mg base S [1] c_l_outcomeqqqqqqq 7 "_law_outcome") (Lb329 : LibFn P w K mg base S [] c_l_table 2 "_law_table") (Lb247 : LibFn P w K mg base S [] c_action 1 "action") (Lb61 : LibFn P w K mg base S [] c_l_run 1 "_law_run") (Lb14 : LibFn P w K mg base S [0] c_l_word 2 "_law_word") (Lb66 : LibFn P w K mg base S [] c_l_made 4 "_law_made") (Lb63 : LibFn P w K mg base S [0] c_l_any_automaton 2 "_law_any_automaton") (Lb6 : LibFn P w K mg base S [0] c_l_take 1 "_law_take") (Lb5 : LibFn P w K mg base S [] c_l_draws 1 "_law_draws") {fa : Addr} {fd : FuncData} (F : Fun K "law" "law" (top 28) fa fd) : FnOk P w K mg base (L2.CX P w) 8 fa fd ["_law_script"] (spT S [1] c_law_k30) := by
  refine fn_okT (k := 7) F sc_law_k30 rfl rfl (by decide) (by decide) rfl (by decide +kernel) fun cdv A outer s H E hr => ?_
  have c : Ctx (cxOf (L2.CX P w) P w K mg base ["_law_script", "%t", "_law_draws_here", "_law_letters", "_law_automaton", "_law_made_here", "_law_word_here", "_law_due", "_law_state", "_law_table_here", "_law_found", "_law_loose", "_law_row"] "law" (defScope (top 28)) fa cdv A outer s H E) S att 7 (fun cls d _ H => E cls d H) := ⟨Fa.hK, Fa.hC, hr, sc_law_k30.nd, rfl, takes_def⟩
  have po : PassesOwn (model P w) (cxOf (L2.CX P w) P w K mg base ["_law_script", "%t", "_law_draws_here", "_law_letters", "_law_automaton", "_law_made_here", "_law_word_here", "_law_due", "_law_state", "_law_table_here", "_law_found", "_law_loose", "_law_row"] "law" (defScope (top 28)) fa cdv A outer s H E).A (cxOf (L2.CX P w) P w K mg base ["_law_script", "%t", "_law_draws_here", "_law_letters", "_law_automaton", "_law_made_here", "_law_word_here", "_law_due", "_law_state", "_law_table_here", "_law_found", "_law_loose", "_law_row"] "law" (defScope (top 28)) fa cdv A outer s H E).env (cxOf (L2.CX P w) P w K mg base ["_law_script", "%t", "_law_draws_here", "_law_letters", "_law_automaton", "_law_made_here", "_law_word_here", "_law_due", "_law_state", "_law_table_here", "_law_found", "_law_loose", "_law_row"] "law" (defScope (top 28)) fa cdv A outer s H E).xe := PassesOwn.leaving
  exact (ss_cons (ks_asg c 2 (k_call c Lb5 rfl (k_rd (k_slot 0) (k_rd k_int a_nil))))
 (ss_cons (ks_asg c 3 (k_bin .add k_int (k_call c Lb6 rfl (k_mv 2 (k_rd k_int a_nil)))))
 (ss_cons (ks_asg c 4 (k_call c Lb63 rfl (k_mv 2 (k_rd (k_slot 3) (k_rd k_int a_nil)))))
 (ss_cons (ks_asg c 5 (k_call c Lb66 rfl (k_rd (k_bin .mul (c_lst (k_cons (c_tup (k_cons k_int c_nil)) c_nil)) (k_slot 3)) (k_rd (k_slot 4) a_nil))))
 (ss_cons (ks_asg c 6 (k_call c Lb14 rfl (k_mv 2 (k_rd (k_slot 3) (k_rd k_int a_nil)))))
 (ss_cons (ks_asg c 7 (k_tuple c Fa.m_tuple (k_comp c 8 (ki_r1 Fa.m_range (k_len c Fa.m_len (k_sub c (k_slot 4) k_int))) (fun s H C cl fp c => (k_call c Lb61 rfl (k_rd (c_tup (k_cons (k_slot 8) (k_cons (c_lst c_nil) (k_cons (k_sub c (k_slot 4) k_int) c_nil)))) (k_rd (k_slot 6) a_nil)))) (fun s H C cl fp c => t_none))))
 (ss_cons (s_ite (kt_cmp .ne c (k_call c Lb247 rfl (k_rd (k_slot 5) (k_rd (k_list c Fa.m_list (k_slot 6)) a_nil))) (k_slot 7)) (ss_cons (ks_ret k_bl)
 ss_nil) ss_nil)
 (ss_cons (ks_asg c 9 (k_call c Lb329 rfl (k_rd (k_slot 4) a_nil)))
 (ss_cons (ks_asg c 10 (k_callT c Lb328 rfl (k_rdT (k_slot 5) (k_tok 1))))
 (ss_cons (s_ite (kt_cmp .gt c (k_len c Fa.m_len (k_slot 9)) k_int) (ss_cons (ks_ret (k_isN (k_slot 10)))
 ss_nil) ss_nil)
 (ss_cons (s_ite (t_or (t_not (kt_val (k_isi .list Fa.m_isinstance Fa.m_list (k_slot 10)))) (pw_or1 (kt_cmp .ne c (k_slot 10) (k_slot 9)))).pt (ss_cons (ks_ret k_bl)
 ss_nil) ss_nil)
 (ss_cons (ks_setLc c 11 12 (ki_slot 9) (fun s H C cl fp c => (k_sub c (k_slot 12) k_int)) (fun s H C cl fp c => t_some (t_not (kt_val (k_call c Lb153 rfl (k_rd (k_sub c (k_slot 12) k_int) a_nil))))))
 (ss_cons (s_ite (kt_cmp .eq c (k_len c Fa.m_len (k_slot 11)) k_int) (ss_cons (ks_ret (k_isN (k_callT c Lb327 rfl (k_rdT (k_slot 5) (k_tok 1)))))
 ss_nil) ss_nil)
 (ss_cons (ks_ret (k_cmp .eq c (k_callT c Lb327 rfl (k_rdT (k_slot 5) (k_tok 1))) (k_sub c (k_slot 11) k_int)))
 ss_nil))))))))))))))
def sigOf (K : PySem.W.Frag) (P7 C0 E0 E1 : Addr) : Sig := ⟨K, fun c => match c with | 1 => some ⟨C0, ["letters", "start", "finals", "rows"]⟩ | _ => none, fun c => match c with | 1 => .ref E0 | 2 => .ref E1 | _ => .none, fun n F0 => match n with | 281 => ∃ cl c, F0 = NF.of (inFn (top 10) 3) "step" "least.<locals>.step" cl c | 282 => ∃ cl c, F0 = NF.of (inFn (top 10) 4) "is_final" "least.<locals>.is_final" cl c | _ => False, fun n => match n with | 281 => ["automaton", "classes", "samples"] | 282 => ["automaton", "samples"] | _ => [], [], [(P7, nm_least)]⟩
theorem all_mk (hm : ∀ ns : List Int, ns.length ≤ 63 → c_law_k30 [.scr ns, .tbs] = .ok (.bl true) [.tbs]) {l : PySem.W.OpenLaw} {w : World} {K : PySem.W.Frag} {h : Heap} {mg : Str → Option Value} {fa f0 f1 f2 f5 f6 f7 f8 f9 f10 f11 f12 f13 f14 f15 f16 f17 f18 f19 f20 f21 f22 cd7 P7 C0 E0 E1 : Addr} (X : K.In h) (G : h.Ns mainGlobals mg) (hfa : mg "law" = some (.ref fa))
    {od0 an0 od1 an1 od2 an2 od5 an5 od6 an6 od7 an7 od8 an8 od9 an9 od10 an10 od11 an11 od12 an12 od13 an13 od14 an14 od15 an15 od16 an16 od17 an17 od18 an18 od19 an19 od20 an20 od21 an21 od22 an22 kd7 : Option Addr} {sl0 sl1 sl2 sl5 sl6 sl7 sl8 sl9 sl10 sl11 sl12 sl13 sl14 sl15 sl16 sl17 sl18 sl19 sl20 sl21 sl22 ks7 : Array (Option Value)} {oc0 kV0 dc0 pm0 cd0 ct0 oc1 kV1 dc1 pm1 cd1 ct1 oc2 kV2 dc2 pm2 cd2 ct2 oc5 kV5 dc5 pm5 cd5 ct5 oc6 kV6 dc6 pm6 cd6 ct6 oc7 kV7 dc7 pm7 ct7 oc8 kV8 dc8 pm8 cd8 ct8 oc9 kV9 dc9 pm9 cd9 ct9 oc10 kV10 dc10 pm10 cd10 ct10 oc11 kV11 dc11 pm11 cd11 ct11 oc12 kV12 dc12 pm12 cd12 ct12 oc13 kV13 dc13 pm13 cd13 ct13 oc14 kV14 dc14 pm14 cd14 ct14 oc15 kV15 dc15 pm15 cd15 ct15 oc16 kV16 dc16 pm16 cd16 ct16 oc17 kV17 dc17 pm17 cd17 ct17 oc18 kV18 dc18 pm18 cd18 ct18 oc19 kV19 dc19 pm19 cd19 ct19 oc20 kV20 dc20 pm20 cd20 ct20 oc21 kV21 dc21 pm21 cd21 ct21 oc22 kV22 dc22 pm22 cd22 ct22 kc07 : Value} {tk_MOST_ACTIONS : Tok} {kv7 : Array Value}
    (aC0 : PySem.W.nsIn K mainGlobals "Automaton" = some (some (.ref C0)))
    (aE0 : PySem.W.nsIn K mainGlobals "InvalidAutomaton" = some (some (.ref E0)))
    (aE1 : PySem.W.nsIn K mainGlobals "TooLarge" = some (some (.ref E1)))
    (a0 : PySem.W.nsIn K mainGlobals "right_row" = some (some (.ref f0)))
    (l0 : K.lookup f0 = some ⟨oc0, od0, .func (PySem.W.fnOf "right_row" "right_row" (defArgs (top 6)) (defBody (top 6)) (defScope (top 6)) .none kV0 dc0 pm0 an0 cd0 ct0), sl0⟩)
    (c0 : PySem.W.codeIn K cd0 "right_row" = true)
    (k0 : PySem.W.keepIn K (.ref f0) = true)
    (a1 : PySem.W.nsIn K mainGlobals "ascends" = some (some (.ref f1)))
    (l1 : K.lookup f1 = some ⟨oc1, od1, .func (PySem.W.fnOf "ascends" "ascends" (defArgs (top 5)) (defBody (top 5)) (defScope (top 5)) .none kV1 dc1 pm1 an1 cd1 ct1), sl1⟩)
    (c1 : PySem.W.codeIn K cd1 "ascends" = true)
    (k1 : PySem.W.keepIn K (.ref f1) = true)
    (a2 : PySem.W.findIn K (.ref C0) "__init__" = some (some (.ref f2)))
    (i2 : PySem.W.isFn K (.ref f2) = true)
    (l2 : K.lookup f2 = some ⟨oc2, od2, .func (PySem.W.fnOf "__init__" "Automaton.__init__" (defArgs (inClass (top 7) 0)) (defBody (inClass (top 7) 0)) (defScope (inClass (top 7) 0)) .none kV2 dc2 pm2 an2 cd2 ct2), sl2⟩)
    (c2 : PySem.W.codeIn K cd2 "Automaton.__init__" = true)
    (k2 : PySem.W.keepIn K (.ref f2) = true)
    (a5 : PySem.W.nsIn K mainGlobals "explored" = some (some (.ref f5)))
    (l5 : K.lookup f5 = some ⟨oc5, od5, .func (PySem.W.fnOf "explored" "explored" (defArgs (top 8)) (defBody (top 8)) (defScope (top 8)) .none kV5 dc5 pm5 an5 cd5 ct5), sl5⟩)
    (c5 : PySem.W.codeIn K cd5 "explored" = true)
    (k5 : PySem.W.keepIn K (.ref f5) = true)
    (a6 : PySem.W.nsIn K mainGlobals "classes_of" = some (some (.ref f6)))
    (l6 : K.lookup f6 = some ⟨oc6, od6, .func (PySem.W.fnOf "classes_of" "classes_of" (defArgs (top 9)) (defBody (top 9)) (defScope (top 9)) .none kV6 dc6 pm6 an6 cd6 ct6), sl6⟩)
    (c6 : PySem.W.codeIn K cd6 "classes_of" = true)
    (k6 : PySem.W.keepIn K (.ref f6) = true)
    (a7 : PySem.W.nsIn K mainGlobals "least" = some (some (.ref f7)))
    (l7 : K.lookup f7 = some ⟨oc7, od7, .func (PySem.W.fnOf "least" "least" (defArgs (top 10)) (defBody (top 10)) (defScope (top 10)) .none kV7 dc7 pm7 an7 (.ref cd7) ct7), sl7⟩)
    (c7 : PySem.W.codeIn K (.ref cd7) "least" = true)
    (k7 : PySem.W.keepIn K (.ref f7) = true)
    (a8 : PySem.W.nsIn K mainGlobals "actions" = some (some (.ref f8)))
    (l8 : K.lookup f8 = some ⟨oc8, od8, .func (PySem.W.fnOf "actions" "actions" (defArgs (top 14)) (defBody (top 14)) (defScope (top 14)) .none kV8 dc8 pm8 an8 cd8 ct8), sl8⟩)
    (c8 : PySem.W.codeIn K cd8 "actions" = true)
    (k8 : PySem.W.keepIn K (.ref f8) = true)
    (a9 : PySem.W.nsIn K mainGlobals "settles" = some (some (.ref f9)))
    (l9 : K.lookup f9 = some ⟨oc9, od9, .func (PySem.W.fnOf "settles" "settles" (defArgs (top 15)) (defBody (top 15)) (defScope (top 15)) .none kV9 dc9 pm9 an9 cd9 ct9), sl9⟩)
    (c9 : PySem.W.codeIn K cd9 "settles" = true)
    (k9 : PySem.W.keepIn K (.ref f9) = true)
    (a10 : PySem.W.nsIn K mainGlobals "unsettled_word" = some (some (.ref f10)))
    (l10 : K.lookup f10 = some ⟨oc10, od10, .func (PySem.W.fnOf "unsettled_word" "unsettled_word" (defArgs (top 16)) (defBody (top 16)) (defScope (top 16)) .none kV10 dc10 pm10 an10 cd10 ct10), sl10⟩)
    (c10 : PySem.W.codeIn K cd10 "unsettled_word" = true)
    (k10 : PySem.W.keepIn K (.ref f10) = true)
    (a11 : PySem.W.nsIn K mainGlobals "_law_rests" = some (some (.ref f11)))
    (l11 : K.lookup f11 = some ⟨oc11, od11, .func (PySem.W.fnOf "_law_rests" "_law_rests" (defArgs (top 27)) (defBody (top 27)) (defScope (top 27)) .none kV11 dc11 pm11 an11 cd11 ct11), sl11⟩)
    (c11 : PySem.W.codeIn K cd11 "_law_rests" = true)
    (k11 : PySem.W.keepIn K (.ref f11) = true)
    (a12 : PySem.W.nsIn K mainGlobals "_law_outcome" = some (some (.ref f12)))
    (l12 : K.lookup f12 = some ⟨oc12, od12, .func (PySem.W.fnOf "_law_outcome" "_law_outcome" (defArgs (top 25)) (defBody (top 25)) (defScope (top 25)) .none kV12 dc12 pm12 an12 cd12 ct12), sl12⟩)
    (c12 : PySem.W.codeIn K cd12 "_law_outcome" = true)
    (k12 : PySem.W.keepIn K (.ref f12) = true)
    (a13 : PySem.W.nsIn K mainGlobals "_law_smallest" = some (some (.ref f13)))
    (l13 : K.lookup f13 = some ⟨oc13, od13, .func (PySem.W.fnOf "_law_smallest" "_law_smallest" (defArgs (top 24)) (defBody (top 24)) (defScope (top 24)) .none kV13 dc13 pm13 an13 cd13 ct13), sl13⟩)
    (c13 : PySem.W.codeIn K cd13 "_law_smallest" = true)
    (k13 : PySem.W.keepIn K (.ref f13) = true)
    (a14 : PySem.W.nsIn K mainGlobals "_law_table" = some (some (.ref f14)))
    (l14 : K.lookup f14 = some ⟨oc14, od14, .func (PySem.W.fnOf "_law_table" "_law_table" (defArgs (top 26)) (defBody (top 26)) (defScope (top 26)) .none kV14 dc14 pm14 an14 cd14 ct14), sl14⟩)
    (c14 : PySem.W.codeIn K cd14 "_law_table" = true)
    (k14 : PySem.W.keepIn K (.ref f14) = true)
    (a15 : PySem.W.nsIn K mainGlobals "action" = some (some (.ref f15)))
    (l15 : K.lookup f15 = some ⟨oc15, od15, .func (PySem.W.fnOf "action" "action" (defArgs (top 13)) (defBody (top 13)) (defScope (top 13)) .none kV15 dc15 pm15 an15 cd15 ct15), sl15⟩)
    (c15 : PySem.W.codeIn K cd15 "action" = true)
    (k15 : PySem.W.keepIn K (.ref f15) = true)
    (a16 : PySem.W.nsIn K mainGlobals "_law_run" = some (some (.ref f16)))
    (l16 : K.lookup f16 = some ⟨oc16, od16, .func (PySem.W.fnOf "_law_run" "_law_run" (defArgs (top 21)) (defBody (top 21)) (defScope (top 21)) .none kV16 dc16 pm16 an16 cd16 ct16), sl16⟩)
    (c16 : PySem.W.codeIn K cd16 "_law_run" = true)
    (k16 : PySem.W.keepIn K (.ref f16) = true)
    (a17 : PySem.W.nsIn K mainGlobals "_law_take" = some (some (.ref f17)))
    (l17 : K.lookup f17 = some ⟨oc17, od17, .func (PySem.W.fnOf "_law_take" "_law_take" (defArgs (top 19)) (defBody (top 19)) (defScope (top 19)) .none kV17 dc17 pm17 an17 cd17 ct17), sl17⟩)
    (c17 : PySem.W.codeIn K cd17 "_law_take" = true)
    (k17 : PySem.W.keepIn K (.ref f17) = true)
    (a18 : PySem.W.nsIn K mainGlobals "_law_word" = some (some (.ref f18)))
    (l18 : K.lookup f18 = some ⟨oc18, od18, .func (PySem.W.fnOf "_law_word" "_law_word" (defArgs (top 20)) (defBody (top 20)) (defScope (top 20)) .none kV18 dc18 pm18 an18 cd18 ct18), sl18⟩)
    (c18 : PySem.W.codeIn K cd18 "_law_word" = true)
    (k18 : PySem.W.keepIn K (.ref f18) = true)
    (a19 : PySem.W.nsIn K mainGlobals "_law_made" = some (some (.ref f19)))
    (l19 : K.lookup f19 = some ⟨oc19, od19, .func (PySem.W.fnOf "_law_made" "_law_made" (defArgs (top 23)) (defBody (top 23)) (defScope (top 23)) .none kV19 dc19 pm19 an19 cd19 ct19), sl19⟩)
    (c19 : PySem.W.codeIn K cd19 "_law_made" = true)
    (k19 : PySem.W.keepIn K (.ref f19) = true)
    (a20 : PySem.W.nsIn K mainGlobals "_law_any_automaton" = some (some (.ref f20)))
    (l20 : K.lookup f20 = some ⟨oc20, od20, .func (PySem.W.fnOf "_law_any_automaton" "_law_any_automaton" (defArgs (top 22)) (defBody (top 22)) (defScope (top 22)) .none kV20 dc20 pm20 an20 cd20 ct20), sl20⟩)
    (c20 : PySem.W.codeIn K cd20 "_law_any_automaton" = true)
    (k20 : PySem.W.keepIn K (.ref f20) = true)
    (a21 : PySem.W.nsIn K mainGlobals "_law_draws" = some (some (.ref f21)))
    (l21 : K.lookup f21 = some ⟨oc21, od21, .func (PySem.W.fnOf "_law_draws" "_law_draws" (defArgs (top 18)) (defBody (top 18)) (defScope (top 18)) .none kV21 dc21 pm21 an21 cd21 ct21), sl21⟩)
    (c21 : PySem.W.codeIn K cd21 "_law_draws" = true)
    (k21 : PySem.W.keepIn K (.ref f21) = true)
    (a22 : PySem.W.nsIn K mainGlobals "law" = some (some (.ref f22)))
    (l22 : K.lookup f22 = some ⟨oc22, od22, .func (PySem.W.fnOf "law" "law" (defArgs (top 28)) (defBody (top 28)) (defScope (top 28)) .none kV22 dc22 pm22 an22 cd22 ct22), sl22⟩)
    (c22 : PySem.W.codeIn K cd22 "law" = true)
    (k22 : PySem.W.keepIn K (.ref f22) = true)
    (kl7 : K.lookup cd7 = some ⟨kc07, kd7, .fields kv7, ks7⟩)
    (kp7 : (kv7[11]? : Option Value) = some (.ref P7))
    (kh7 : PySem.W.codeHdIn K cd7 P7 = true)
    (kn7 : K.lookup P7 = none)
    (kt7 : h.get? P7 = some { cls := .none, data := .fields #[] })
    (pg0 : PySem.W.plainGet K C0 Str.empty = true)
    (hd0 : PySem.W.hasDictIn K C0 = true)
    (po0 : PySem.W.plainOver K C0 = true)
    (sa0 : PySem.W.findIn K (.ref C0) "__setattr__" = some (some (.builtin "object.__setattr__")))
    (mk0 : PySem.W.makesIn K C0 = true)
    (kc0 : PySem.W.keepIn K (.ref C0) = true)
    (n0_letters : PySem.W.findIn K (.ref C0) "letters" = some none)
    (n0_start : PySem.W.findIn K (.ref C0) "start" = some none)
    (n0_finals : PySem.W.findIn K (.ref C0) "finals" = some none)
    (n0_rows : PySem.W.findIn K (.ref C0) "rows" = some none)
    (kE0 : PySem.W.keepIn K (.ref E0) = true)
    (xE0 : PySem.W.excIn K E0 [.type "ValueError", .type "Exception", .type "BaseException", .type "object"] "ValueError.__new__" = true)
    (bE0 : PySem.W.subIn K (.ref E0) (.type "BaseException") = some true)
    (tE0 : PySem.W.typeIn K (.ref E0) = some (.type "type"))
    (hE1 : PySem.W.hasDictIn K E1 = true)
    (sE1 : PySem.W.subIn K (.ref E1) (.ref E1) = some true)
    (kE1 : PySem.W.keepIn K (.ref E1) = true)
    (xE1 : PySem.W.excIn K E1 [.type "ValueError", .type "Exception", .type "BaseException", .type "object"] "ValueError.__new__" = true)
    (bE1 : PySem.W.subIn K (.ref E1) (.type "BaseException") = some true)
    (tE1 : PySem.W.typeIn K (.ref E1) = some (.type "type"))
    (z_int : PySem.W.nsIn K mainGlobals "int" = some none)
    (z_isinstance : PySem.W.nsIn K mainGlobals "isinstance" = some none)
    (z_len : PySem.W.nsIn K mainGlobals "len" = some none)
    (z_list : PySem.W.nsIn K mainGlobals "list" = some none)
    (z_range : PySem.W.nsIn K mainGlobals "range" = some none)
    (z_set : PySem.W.nsIn K mainGlobals "set" = some none)
    (z_tuple : PySem.W.nsIn K mainGlobals "tuple" = some none)
    (g_MOST_ACTIONS : PySem.W.nsIn K mainGlobals "MOST_ACTIONS" = some (some (.int 400 tk_MOST_ACTIONS)))
    : LawAtS l w K (L2.CX l.prog w) 8 63 "_law_script" mg fa h := by
  have e := hfa.symm.trans (PySem.W.mg_of X G a22)
  cases e
  have hC : ∀ ce, ClsOk K att (Sig.at (sigOf K P7 C0 E0 E1) ce) := fun ce => ⟨fun c cl hc => by
    unfold Sig.at sigOf at hc
    simp only at hc
    split at hc
    · cases hc
      refine ⟨⟨pg0, hd0, po0, sa0⟩, rfl, (show (["letters", "start", "finals", "rows"] : List Str).Nodup by decide), (show (["letters", "start", "finals", "rows"] : List Str).length < 900 by decide), fun f hf => ?_⟩
      simp only [List.mem_cons, List.not_mem_nil, or_false] at hf
      rcases hf with rfl | rfl | rfl | rfl
      · exact n0_letters
      · exact n0_start
      · exact n0_finals
      · exact n0_rows
    · cases hc⟩
  have nfsI : ∀ n F0, (sigOf K P7 C0 E0 E1).nf n F0 → n = 281 ∨ n = 282 := fun n F0 h => by
    unfold sigOf at h
    simp only at h
    split at h <;> first | exact h.elim | simp
  have Fa : ∀ ce, Facts K mg (Sig.at (sigOf K P7 C0 E0 E1) ce) := fun ce => { hK := rfl, hC := hC ce, m_int := PySem.W.mg_none_of X G z_int, m_isinstance := PySem.W.mg_none_of X G z_isinstance, m_len := PySem.W.mg_none_of X G z_len, m_list := PySem.W.mg_none_of X G z_list, m_range := PySem.W.mg_none_of X G z_range, m_set := PySem.W.mg_none_of X G z_set, m_tuple := PySem.W.mg_none_of X G z_tuple, g_MOST_ACTIONS := ⟨_, PySem.W.mg_of X G g_MOST_ACTIONS⟩, rz_InvalidAutomaton := ⟨E0, rfl, PySem.W.mg_of X G aE0, kE0, xE0, bE0, tE0⟩, rz_TooLarge := ⟨E1, rfl, PySem.W.mg_of X G aE1, kE1, xE1, bE1, tE1⟩, ct_TooLarge := exCatch_mk rfl (PySem.W.mg_of X G aE1) bE1 hE1 tE1 sE1, nf_281 := fun cl c => ⟨cl, c, rfl⟩, ni_281 := fun F0 h => h, fr_281 := rfl, nf_282 := fun cl c => ⟨cl, c, rfl⟩, ni_282 := fun F0 h => h, fr_282 := rfl, nfs := fun n F0 h => nfsI n F0 h }
  have F0 := fun_mk (st := (top 6)) l0 c0 k0
  have b0 := F0.binds (ps := ["row", "letters", "states"]) fun _ _ _ _ _ _ us hl => match us, hl with | [_, _, _], _ => rfl
  have F1 := fun_mk (st := (top 5)) l1 c1 k1
  have b1 := F1.binds (ps := ["numbers", "limit"]) fun _ _ _ _ _ _ us hl => match us, hl with | [_, _], _ => rfl
  have F2 := fun_mk (st := (inClass (top 7) 0)) l2 c2 k2
  have b2 := F2.binds (ps := ["self", "letters", "start", "finals", "rows"]) fun _ _ _ _ _ _ us hl => match us, hl with | [_, _, _, _, _], _ => rfl
  have F5 := fun_mk (st := (top 8)) l5 c5 k5
  have b5 := F5.binds (ps := ["letters", "start", "step", "is_final"]) fun _ _ _ _ _ _ us hl => match us, hl with | [_, _, _, _], _ => rfl
  have F6 := fun_mk (st := (top 9)) l6 c6 k6
  have b6 := F6.binds (ps := ["automaton"]) fun _ _ _ _ _ _ us hl => match us, hl with | [_], _ => rfl
  have F7 := fun_mk (st := (top 10)) l7 c7 k7
  have b7 := F7.binds (ps := ["automaton"]) fun _ _ _ _ _ _ us hl => match us, hl with | [_], _ => rfl
  have F8 := fun_mk (st := (top 14)) l8 c8 k8
  have b8 := F8.binds (ps := ["automaton"]) fun _ _ _ _ _ _ us hl => match us, hl with | [_], _ => rfl
  have F9 := fun_mk (st := (top 15)) l9 c9 k9
  have b9 := F9.binds (ps := ["one"]) fun _ _ _ _ _ _ us hl => match us, hl with | [_], _ => rfl
  have F10 := fun_mk (st := (top 16)) l10 c10 k10
  have b10 := F10.binds (ps := ["automaton"]) fun _ _ _ _ _ _ us hl => match us, hl with | [_], _ => rfl
  have F11 := fun_mk (st := (top 27)) l11 c11 k11
  have b11 := F11.binds (ps := ["_law_one"]) fun _ _ _ _ _ _ us hl => match us, hl with | [_], _ => rfl
  have F12 := fun_mk (st := (top 25)) l12 c12 k12
  have b12 := F12.binds (ps := ["_law_automaton"]) fun _ _ _ _ _ _ us hl => match us, hl with | [_], _ => rfl
  have F13 := fun_mk (st := (top 24)) l13 c13 k13
  have b13 := F13.binds (ps := ["_law_automaton"]) fun _ _ _ _ _ _ us hl => match us, hl with | [_], _ => rfl
  have F14 := fun_mk (st := (top 26)) l14 c14 k14
  have b14 := F14.binds (ps := ["_law_automaton"]) fun _ _ _ _ _ _ us hl => match us, hl with | [_], _ => rfl
  have F15 := fun_mk (st := (top 13)) l15 c15 k15
  have b15 := F15.binds (ps := ["automaton", "word"]) fun _ _ _ _ _ _ us hl => match us, hl with | [_, _], _ => rfl
  have F16 := fun_mk (st := (top 21)) l16 c16 k16
  have b16 := F16.binds (ps := ["_law_automaton", "_law_word_here"]) fun _ _ _ _ _ _ us hl => match us, hl with | [_, _], _ => rfl
  have F17 := fun_mk (st := (top 19)) l17 c17 k17
  have b17 := F17.binds (ps := ["_law_draws_here", "_law_limit"]) fun _ _ _ _ _ _ us hl => match us, hl with | [_, _], _ => rfl
  have F18 := fun_mk (st := (top 20)) l18 c18 k18
  have b18 := F18.binds (ps := ["_law_draws_here", "_law_letters", "_law_most"]) fun _ _ _ _ _ _ us hl => match us, hl with | [_, _, _], _ => rfl
  have F19 := fun_mk (st := (top 23)) l19 c19 k19
  have b19 := F19.binds (ps := ["_law_letters", "_law_automaton"]) fun _ _ _ _ _ _ us hl => match us, hl with | [_, _], _ => rfl
  have F20 := fun_mk (st := (top 22)) l20 c20 k20
  have b20 := F20.binds (ps := ["_law_draws_here", "_law_letters", "_law_most"]) fun _ _ _ _ _ _ us hl => match us, hl with | [_, _, _], _ => rfl
  have F21 := fun_mk (st := (top 18)) l21 c21 k21
  have b21 := F21.binds (ps := ["_law_script", "_law_count"]) fun _ _ _ _ _ _ us hl => match us, hl with | [_, _], _ => rfl
  have F22 := fun_mk (st := (top 28)) l22 c22 k22
  refine ⟨PySem.W.fnOf "law" "law" (defArgs (top 28)) (defBody (top 28)) (defScope (top 28)) .none kV22 dc22 pm22 an22 cd22 ct22, [(cd7, P7)], spLawT K [(cd7, P7)], (List.forall_mem_cons.mpr ⟨kt7, (fun _ h => nomatch h)⟩), (List.forall_mem_cons.mpr ⟨kn7, (fun _ h => nomatch h)⟩), (List.forall_mem_cons.mpr ⟨PySem.W.codeHd_of_K X kh7, (fun _ h => nomatch h)⟩), fun s v => .of_eq rfl, fun H a ns hl _ hT hS => ⟨a, ns, rfl, hS, hl, hT, fun _ => rfl⟩, fun base _ _ hTB => ?_⟩
  have TB7 : TabB base mg cd7 P7 := hTB (cd7, P7) List.mem_cons_self
  have T0 := fun ce => LibFn.mkF F0 (PySem.W.mg_of X G a0) (fn_right_row (P := l.prog) (w := w) (base := base) (S := (Sig.at (sigOf K P7 C0 E0 E1) ce)) (Fa ce) F0) b0
  have T1 := fun ce => LibFn.mkF F1 (PySem.W.mg_of X G a1) (fn_ascends (P := l.prog) (w := w) (base := base) (S := (Sig.at (sigOf K P7 C0 E0 E1) ce)) (Fa ce) F1) b1
  have T2 : ∀ ce, LibCls l.prog w K mg base (Sig.at (sigOf K P7 C0 E0 E1) ce) 1 c_Automaton_init 2 "Automaton" := fun ce => ⟨⟨C0, ["letters", "start", "finals", "rows"]⟩, f2, _, _, rfl, PySem.W.mg_of X G aC0, ⟨mk0, a2, i2, kc0⟩, fn_Automaton_init (P := l.prog) (w := w) (base := base) (S := (Sig.at (sigOf K P7 C0 E0 E1) ce)) (Fa ce) (T0 ce) (T1 ce) F2, b2⟩
  have T3 := fun ce => fn_least_step (P := l.prog) (w := w) (base := base) (S := (Sig.at (sigOf K P7 C0 E0 E1) ce)) (Fa ce)
  have T4 := fun ce => fn_least_is_final (P := l.prog) (w := w) (base := base) (S := (Sig.at (sigOf K P7 C0 E0 E1) ce)) (Fa ce)
  have T5 := fun ce => LibFnT.mkF F5 (PySem.W.mg_of X G a5) (fn_explored_0 (P := l.prog) (w := w) (base := base) (S := (Sig.at (sigOf K P7 C0 E0 E1) ce)) (Fa ce) (T2 ce) (T3 ce) (T4 ce) F5) b5
  have T6 := fun ce => LibFn.mkF F6 (PySem.W.mg_of X G a6) (fn_classes_of (P := l.prog) (w := w) (base := base) (S := (Sig.at (sigOf K P7 C0 E0 E1) ce)) (Fa ce) F6) b6
  have T7 := fun ce => LibFnT.mkF F7 (PySem.W.mg_of X G a7) (fn_least (P := l.prog) (w := w) (base := base) (S := (Sig.at (sigOf K P7 C0 E0 E1) ce)) (fun ce2 => Fa ce2) (T5) (T6) F7 (pt := (P7, nm_least)) (show (P7, nm_least) ∈ ([(P7, nm_least)] : List NTab) from List.mem_cons_self) (show ∀ p1 ∈ ([(P7, nm_least)] : List NTab), p1.1 = P7 → p1.2 = nm_least from (List.forall_mem_cons.mpr ⟨fun _ => rfl, (fun _ h => nomatch h)⟩)) rfl rfl TB7) b7
  have T8 := fun ce => LibFnT.mkF F8 (PySem.W.mg_of X G a8) (fn_actions (P := l.prog) (w := w) (base := base) (S := (Sig.at (sigOf K P7 C0 E0 E1) ce)) (Fa ce) (T7 ce) F8) b8
  have T9 := fun ce => LibFn.mkF F9 (PySem.W.mg_of X G a9) (fn_settles (P := l.prog) (w := w) (base := base) (S := (Sig.at (sigOf K P7 C0 E0 E1) ce)) (Fa ce) F9) b9
  have T10 := fun ce => LibFnT.mkF F10 (PySem.W.mg_of X G a10) (fn_unsettled_word (P := l.prog) (w := w) (base := base) (S := (Sig.at (sigOf K P7 C0 E0 E1) ce)) (Fa ce) (T8 ce) (T9 ce) F10) b10
  have T11 := fun ce => LibFn.mkF F11 (PySem.W.mg_of X G a11) (fn_l_rests (P := l.prog) (w := w) (base := base) (S := (Sig.at (sigOf K P7 C0 E0 E1) ce)) (Fa ce) F11) b11
  have T12 := fun ce => LibFnT.mkF F12 (PySem.W.mg_of X G a12) (fn_l_outcomeqqqqqqq (P := l.prog) (w := w) (base := base) (S := (Sig.at (sigOf K P7 C0 E0 E1) ce)) (Fa ce) (T8 ce) F12) b12
  have T13 := fun ce => LibFn.mkF F13 (PySem.W.mg_of X G a13) (fn_l_smallest (P := l.prog) (w := w) (base := base) (S := (Sig.at (sigOf K P7 C0 E0 E1) ce)) (Fa ce) F13) b13
  have T14 := fun ce => LibFn.mkF F14 (PySem.W.mg_of X G a14) (fn_l_table (P := l.prog) (w := w) (base := base) (S := (Sig.at (sigOf K P7 C0 E0 E1) ce)) (Fa ce) (T13 ce) F14) b14
  have T15 := fun ce => LibFn.mkF F15 (PySem.W.mg_of X G a15) (fn_action (P := l.prog) (w := w) (base := base) (S := (Sig.at (sigOf K P7 C0 E0 E1) ce)) (Fa ce) F15) b15
  have T16 := fun ce => LibFn.mkF F16 (PySem.W.mg_of X G a16) (fn_l_run (P := l.prog) (w := w) (base := base) (S := (Sig.at (sigOf K P7 C0 E0 E1) ce)) (Fa ce) F16) b16
  have T17 := fun ce => LibFn.mkF F17 (PySem.W.mg_of X G a17) (fn_l_take (P := l.prog) (w := w) (base := base) (S := (Sig.at (sigOf K P7 C0 E0 E1) ce)) (Fa ce) F17) b17
  have T18 := fun ce => LibFn.mkF F18 (PySem.W.mg_of X G a18) (fn_l_word (P := l.prog) (w := w) (base := base) (S := (Sig.at (sigOf K P7 C0 E0 E1) ce)) (Fa ce) (T17 ce) F18) b18
  have T19 := fun ce => LibFn.mkF F19 (PySem.W.mg_of X G a19) (fn_l_made (P := l.prog) (w := w) (base := base) (S := (Sig.at (sigOf K P7 C0 E0 E1) ce)) (Fa ce) (T2 ce) F19) b19
  have T20 := fun ce => LibFn.mkF F20 (PySem.W.mg_of X G a20) (fn_l_any_automaton (P := l.prog) (w := w) (base := base) (S := (Sig.at (sigOf K P7 C0 E0 E1) ce)) (Fa ce) (T17 ce) F20) b20
  have T21 := fun ce => LibFn.mkF F21 (PySem.W.mg_of X G a21) (fn_l_draws (P := l.prog) (w := w) (base := base) (S := (Sig.at (sigOf K P7 C0 E0 E1) ce)) (Fa ce) F21) b21
  exact law_impT (S := (sigOf K P7 C0 E0 E1)) (n := 1) rfl (show ∀ p ∈ ([(P7, nm_least)] : List NTab), ∃ q ∈ ([(cd7, P7)] : List (Addr × Addr)), q.2 = p.1 from (List.forall_mem_cons.mpr ⟨⟨(cd7, P7), List.mem_cons_self, rfl⟩, (fun _ h => nomatch h)⟩)) (fn_law_k30 (S := (sigOf K P7 C0 E0 E1)) (base := base) (Fa []) (T10 []) (T11 []) (T12 []) (T14 []) (T15 []) (T16 []) (T18 []) (T19 []) (T20 []) (T17 []) (T21 []) F22) hm

theorem math : ∀ ns : List Int, ns.length ≤ 63 → c_law_k30 [.scr ns, .tbs] = .ok (.bl true) [.tbs] := fun ns _ =>
  have hT : TakeOk c_l_take := take_ok
  have hA : AscOk c_ascends := asc_ok
  have hRw : RowOk c_right_row := row_ok
  have hI : AutInitOk c_Automaton_init := autInit_ok ⟨_, rfl, hA⟩ ⟨_, rfl, hRw⟩
  have hMd : MadeOk c_l_made := autMade_ok ⟨_, rfl, hI⟩
  have hRn : RunOk c_l_run := run_ok
  have hW : 2000 < W0 := by decide
  have hW1 : 1000 < W0 := by decide
  have hC : ClassesOk c_classes_of := classes_ok hW
  have hS1 : LStepOk c_least_step := lstep_ok
  have hS2 : LFinOk c_least_is_final := lfin_ok
  have hE : ExplOk G_explored_0 0 c_explored_0 := fEx_ok hW1 ⟨_, rfl, hI⟩
  have hLe : LeastAutOk c_least := leastAut_ok ⟨_, rfl, hC⟩ ⟨_, rfl, hE⟩ ⟨_, rfl, hS1⟩ ⟨_, rfl, hS2⟩
  have hSm : SmallOk c_l_smallest := small_ok hW
  have hAc : ActOk c_action := act_ok hW
  have hAs : ActsOk c_actions := acts_ok hW1 ⟨_, rfl, hLe⟩
  have hTb : TabOk c_l_table := tab_ok ⟨_, rfl, hSm⟩
  have hOu : OutcAOk c_l_outcomeqqqqqqq := outcA_ok ⟨_, rfl, hAs⟩
  have hSe : SetlOk c_settles := settles_ok hW1
  have hUn : UnsOk c_unsettled_word := uns_ok ⟨_, rfl, hAs⟩ ⟨_, rfl, hSe⟩
  law30 hW ⟨_, rfl, draws_ok⟩ ⟨_, rfl, hT⟩ ⟨_, rfl, anyAut_ok ⟨_, rfl, hT⟩⟩ ⟨_, rfl, hMd⟩ ⟨_, rfl, word_ok ⟨_, rfl, hT⟩⟩ ⟨_, rfl, hRn⟩ ⟨_, rfl, hAc⟩ ⟨_, rfl, hTb⟩ ⟨_, rfl, hOu⟩ ⟨_, rfl, rests_ok⟩ ⟨_, rfl, hUn⟩ ns

end Ab
open PySem PySem.W PyProof.Rows in
set_option maxRecDepth 100000 in
set_option maxHeartbeats 0 in
theorem PySem.Challenge.cw_placewords_k30_actions_holds : PySem.Challenge.rw_placewords_k30_actions.Holds := by
  w_on; o_law; k_head; (case hw => w_witness2)
  k_fill
  refine LamX.walk_ofTs (l := PySem.Challenge.rw_placewords_k30_actions) (n := 63) (k := 8) (x := "_law_script") (CX := fun w => L2.CX (OpenLaw.prog PySem.Challenge.rw_placewords_k30_actions) w) rfl (by decide) rfl ⟨rfl, by decide, by decide⟩ (fun w h Y => PySem.W.km_in_of Y) ?F (fun _ _ _ _ _ h => Ab.cx_none h)
  case F =>
    intro w mg fa h Y KX G hmg
    refine' Ab.all_mk Ab.math KX G hmg ?aC0 ?aE0 ?aE1 ?a0 ?l0 ?c0 ?k0 ?a1 ?l1 ?c1 ?k1 ?a2 ?i2 ?l2 ?c2 ?k2 ?a5 ?l5 ?c5 ?k5 ?a6 ?l6 ?c6 ?k6 ?a7 ?l7 ?c7 ?k7 ?a8 ?l8 ?c8 ?k8 ?a9 ?l9 ?c9 ?k9 ?a10 ?l10 ?c10 ?k10 ?a11 ?l11 ?c11 ?k11 ?a12 ?l12 ?c12 ?k12 ?a13 ?l13 ?c13 ?k13 ?a14 ?l14 ?c14 ?k14 ?a15 ?l15 ?c15 ?k15 ?a16 ?l16 ?c16 ?k16 ?a17 ?l17 ?c17 ?k17 ?a18 ?l18 ?c18 ?k18 ?a19 ?l19 ?c19 ?k19 ?a20 ?l20 ?c20 ?k20 ?a21 ?l21 ?c21 ?k21 ?a22 ?l22 ?c22 ?k22 ?kl7 ?kp7 ?kh7 ?kn7 ?kt7 ?pg0 ?hd0 ?po0 ?sa0 ?mk0 ?kc0 ?n0_letters ?n0_start ?n0_finals ?n0_rows ?kE0 ?xE0 ?bE0 ?tE0 ?hE1 ?sE1 ?kE1 ?xE1 ?bE1 ?tE1 ?z_int ?z_isinstance ?z_len ?z_list ?z_range ?z_set ?z_tuple ?g_MOST_ACTIONS
    (case aC0 => k_is); (case aE0 => k_is); (case aE1 => k_is); (case a0 => k_is); (case l0 => k_is); (case c0 => k_is); (case k0 => k_is); (case a1 => k_is); (case l1 => k_is); (case c1 => k_is); (case k1 => k_is); (case a2 => k_is); (case i2 => k_is); (case l2 => k_is); (case c2 => k_is); (case k2 => k_is); (case a5 => k_is); (case l5 => k_is); (case c5 => k_is); (case k5 => k_is); (case a6 => k_is); (case l6 => k_is); (case c6 => k_is); (case k6 => k_is); (case a7 => k_is); (case l7 => k_is); (case c7 => k_is); (case k7 => k_is); (case a8 => k_is); (case l8 => k_is); (case c8 => k_is); (case k8 => k_is); (case a9 => k_is); (case l9 => k_is); (case c9 => k_is); (case k9 => k_is); (case a10 => k_is); (case l10 => k_is); (case c10 => k_is); (case k10 => k_is); (case a11 => k_is); (case l11 => k_is); (case c11 => k_is); (case k11 => k_is); (case a12 => k_is); (case l12 => k_is); (case c12 => k_is); (case k12 => k_is); (case a13 => k_is); (case l13 => k_is); (case c13 => k_is); (case k13 => k_is); (case a14 => k_is); (case l14 => k_is); (case c14 => k_is); (case k14 => k_is); (case a15 => k_is); (case l15 => k_is); (case c15 => k_is); (case k15 => k_is); (case a16 => k_is); (case l16 => k_is); (case c16 => k_is); (case k16 => k_is); (case a17 => k_is); (case l17 => k_is); (case c17 => k_is); (case k17 => k_is); (case a18 => k_is); (case l18 => k_is); (case c18 => k_is); (case k18 => k_is); (case a19 => k_is); (case l19 => k_is); (case c19 => k_is); (case k19 => k_is); (case a20 => k_is); (case l20 => k_is); (case c20 => k_is); (case k20 => k_is); (case a21 => k_is); (case l21 => k_is); (case c21 => k_is); (case k21 => k_is); (case a22 => k_is); (case l22 => k_is); (case c22 => k_is); (case k22 => k_is); (case kl7 => k_is); (case kp7 => rfl); (case kh7 => kernel_rfl); (case kn7 => kernel_rfl); (case kt7 => exact PySem.W.km_tabs_of Y _ (by k_mem)); (case pg0 => k_is); (case hd0 => k_is); (case po0 => k_is); (case sa0 => k_is); (case mk0 => k_is); (case kc0 => k_is); (case n0_letters => k_is); (case n0_start => k_is); (case n0_finals => k_is); (case n0_rows => k_is); (case kE0 => k_is); (case xE0 => k_exc); (case bE0 => k_is); (case tE0 => k_is); (case hE1 => k_is); (case sE1 => k_is); (case kE1 => k_is); (case xE1 => k_exc); (case bE1 => k_is); (case tE1 => k_is); (case z_int => k_is); (case z_isinstance => k_is); (case z_len => k_is); (case z_list => k_is); (case z_range => k_is); (case z_set => k_is); (case z_tuple => k_is); (case g_MOST_ACTIONS => k_is)
