import PyProof.Rows.All
import Wide.All
import OpenK.AllK
import Wide.FinOn
import HandS.ForMost
import HandS.TupSets
import HandS.SetFor
import HandS.Strs
import HandS.Wide
import HandS.Zip
import HandS.Walk
import HandS.TupAny
import HandS.Conv
import HandS.Codes
import HandS.Flow
import HandS.Style
import HandS.EndBits
import PySem.Challenge.RW_norowstray_k22_whole_many_valued_are_joi
set_option linter.all false
/-! The plain law: tables as lists of rows, rows as lists of ints; no program in sight. -/
namespace N22
/-- the value of a row in a column -/
def at_ (r : List Int) (c : Int) : Int := r.getD c.toNat 0
def pick (r cs : List Int) : List Int := cs.map (at_ r)
def dealt (n : Nat) (a b l r : List Int) : List Int := (List.range n).map fun (c : Nat) => if (c : Int) ∈ l ∨ (c : Int) ∈ r then at_ a (c : Int) else at_ b (c : Int)
def Settles (R : List (List Int)) (l r : List Int) : Prop := ∀ a ∈ R, ∀ b ∈ R, pick a l = pick b l → pick a r = pick b r
def Deals (n : Nat) (R : List (List Int)) (l r : List Int) : Prop := ∀ a ∈ R, ∀ b ∈ R, pick a l = pick b l → dealt n a b l r ∈ R
def Joins (n : Nat) (R : List (List Int)) (parts : List (List Int)) : Prop := ∀ row : List Int, row.length = n → (∀ p ∈ parts, ∃ r ∈ R, pick r p = pick row p) → row ∈ R
/-- columns of a table of width n -/
def InW (n : Nat) (cs : List Int) : Prop := ∀ c ∈ cs, 0 ≤ c ∧ c < (n : Int)

theorem pick_iff {a b cs : List Int} : pick a cs = pick b cs ↔ ∀ c ∈ cs, at_ a c = at_ b c := by
  unfold pick
  constructor
  · intro h c hc
    exact (List.map_inj_left.mp h) c hc
  · intro h
    exact List.map_inj_left.mpr h
theorem pick_length (r cs : List Int) : (pick r cs).length = cs.length := List.length_map _
theorem row_ext {n : Nat} {a b : List Int} (ha : a.length = n) (hb : b.length = n) (h : ∀ c : Int, 0 ≤ c → c < (n : Int) → at_ a c = at_ b c) : a = b := by
  apply List.ext_getElem (by rw [ha, hb])
  intro i h1 h2
  have q := h (i : Int) (by omega) (by omega)
  unfold at_ at q
  rw [Int.toNat_natCast, List.getD_eq_getElem?_getD, List.getD_eq_getElem?_getD, List.getElem?_eq_getElem h1, List.getElem?_eq_getElem h2] at q
  exact q
theorem dealt_length (n : Nat) (a b l r : List Int) : (dealt n a b l r).length = n := by
  unfold dealt
  rw [List.length_map, List.length_range]
theorem at_range {n : Nat} {f : Nat → Int} {c : Int} (h0 : 0 ≤ c) (h1 : c < (n : Int)) : at_ ((List.range n).map f) c = f c.toNat := by
  unfold at_
  have hc : c.toNat < n := by omega
  rw [List.getD_eq_getElem?_getD, List.getElem?_map, List.getElem?_range hc]
  rfl
theorem at_dealt {n : Nat} {a b l r : List Int} {c : Int} (h0 : 0 ≤ c) (h1 : c < (n : Int)) : at_ (dealt n a b l r) c = if c ∈ l ∨ c ∈ r then at_ a c else at_ b c := by
  unfold dealt
  rw [at_range h0 h1, Int.toNat_of_nonneg h0]

/-- the dealt rows are the same where the sides are the same together -/
theorem dealt_congr {n : Nat} {a b l r r' : List Int} (h : ∀ c : Int, 0 ≤ c → c < (n : Int) → ((c ∈ l ∨ c ∈ r) ↔ (c ∈ l ∨ c ∈ r'))) : dealt n a b l r = dealt n a b l r' := by
  refine row_ext (dealt_length ..) (dealt_length ..) fun c h0 h1 => ?_
  rw [at_dealt h0 h1, at_dealt h0 h1]
  have q := h c h0 h1
  by_cases z : c ∈ l ∨ c ∈ r
  · rw [if_pos z, if_pos (q.mp z)]
  · rw [if_neg z, if_neg fun y => z (q.mpr y)]
theorem deals_congr {n : Nat} {R : List (List Int)} {l r r' : List Int} (h : ∀ c : Int, 0 ≤ c → c < (n : Int) → ((c ∈ l ∨ c ∈ r) ↔ (c ∈ l ∨ c ∈ r'))) : Deals n R l r ↔ Deals n R l r' := by
  have e : ∀ a b, dealt n a b l r = dealt n a b l r' := fun a b => dealt_congr h
  unfold Deals
  constructor
  · intro z a ha b hb hl
    rw [← e]
    exact z a ha b hb hl
  · intro z a ha b hb hl
    rw [e]
    exact z a ha b hb hl
theorem dealt_swap {n : Nat} {a b l r r' : List Int} (hl : InW n l) (hab : pick a l = pick b l) (h : ∀ c : Int, 0 ≤ c → c < (n : Int) → c ∉ l → (c ∈ r' ↔ c ∉ r)) : dealt n a b l r' = dealt n b a l r := by
  refine row_ext (dealt_length ..) (dealt_length ..) fun c h0 h1 => ?_
  rw [at_dealt h0 h1, at_dealt h0 h1]
  by_cases z : c ∈ l
  · rw [if_pos (.inl z), if_pos (.inl z)]
    exact pick_iff.mp hab c z
  · have q := h c h0 h1 z
    by_cases y : c ∈ r
    · have y' : c ∉ r' := fun w => q.mp w y
      rw [if_neg (fun w => w.elim z y'), if_pos (.inr y)]
    · rw [if_pos (.inr (q.mpr y)), if_neg (fun w => w.elim z y)]
theorem deals_swap {n : Nat} {R : List (List Int)} {l r r' : List Int} (hl : InW n l) (h : ∀ c : Int, 0 ≤ c → c < (n : Int) → c ∉ l → (c ∈ r' ↔ c ∉ r)) : Deals n R l r ↔ Deals n R l r' := by
  unfold Deals
  constructor
  · intro z a ha b hb hab
    rw [dealt_swap hl hab h]
    exact z b hb a ha hab.symm
  · intro z a ha b hb hab
    have e := dealt_swap hl hab.symm h
    rw [← e]
    exact z b hb a ha hab.symm
/-- the join of the two parts -/
theorem joins_deals {n : Nat} {R : List (List Int)} {l r p q : List Int} {parts : List (List Int)} (hn : 1 ≤ n) (hl : InW n l) (hp : InW n p) (hq : InW n q)
    (ep : ∀ c : Int, 0 ≤ c → c < (n : Int) → (c ∈ p ↔ c ∈ l ∨ c ∈ r)) (eq : ∀ c : Int, 0 ≤ c → c < (n : Int) → (c ∈ q ↔ c ∈ l ∨ c ∉ r))
    (hparts : ∀ s, s ∈ parts ↔ (s = p ∨ s = q) ∧ s ≠ []) : Joins n R parts ↔ Deals n R l r := by
  constructor
  · intro J a ha b hb hab
    refine J _ (dealt_length ..) fun s hs => ?_
    rcases ((hparts s).mp hs).1 with e | e
    · refine ⟨a, ha, pick_iff.mpr fun c hc => ?_⟩
      rw [e] at hc
      obtain ⟨h0, h1⟩ := hp c hc
      rw [at_dealt h0 h1, if_pos ((ep c h0 h1).mp hc)]
    · refine ⟨b, hb, pick_iff.mpr fun c hc => ?_⟩
      rw [e] at hc
      obtain ⟨h0, h1⟩ := hq c hc
      rw [at_dealt h0 h1]
      by_cases z : c ∈ l
      · rw [if_pos (.inl z)]
        exact (pick_iff.mp hab c z).symm
      · rcases (eq c h0 h1).mp hc with y | y
        · exact absurd y z
        · rw [if_neg fun w => w.elim z y]
  · intro D row hrow hx
    have some_row : ∃ r0, r0 ∈ R := by
      have z0 : (0 : Int) < (n : Int) := by omega
      by_cases z : (0 : Int) ∈ p
      · obtain ⟨r0, h, _⟩ := hx p ((hparts p).mpr ⟨.inl rfl, fun e => by rw [e] at z; cases z⟩)
        exact ⟨r0, h⟩
      · have y : (0 : Int) ∈ q := (eq 0 (Int.le_refl 0) z0).mpr (.inr fun w => z ((ep 0 (Int.le_refl 0) z0).mpr (.inr w)))
        obtain ⟨r0, h, _⟩ := hx q ((hparts q).mpr ⟨.inr rfl, fun e => by rw [e] at y; cases y⟩)
        exact ⟨r0, h⟩
    obtain ⟨r0, hr0⟩ := some_row
    have each : ∀ s, (s = p ∨ s = q) → ∃ r1 ∈ R, pick r1 s = pick row s := fun s hs => by
      by_cases z : s = []
      · exact ⟨r0, hr0, by rw [z]; rfl⟩
      · exact hx s ((hparts s).mpr ⟨hs, z⟩)
    obtain ⟨a, ha, ea⟩ := each p (.inl rfl)
    obtain ⟨b, hb, eb⟩ := each q (.inr rfl)
    have fa := pick_iff.mp ea
    have fb := pick_iff.mp eb
    have hab : pick a l = pick b l := pick_iff.mpr fun c hc => by
      obtain ⟨h0, h1⟩ := hl c hc
      rw [fa c ((ep c h0 h1).mpr (.inl hc)), fb c ((eq c h0 h1).mpr (.inl hc))]
    have e : dealt n a b l r = row := row_ext (dealt_length ..) hrow fun c h0 h1 => by
      rw [at_dealt h0 h1]
      by_cases z : c ∈ l ∨ c ∈ r
      · rw [if_pos z]
        exact fa c ((ep c h0 h1).mpr z)
      · rw [if_neg z]
        exact fb c ((eq c h0 h1).mpr (.inr fun w => z (.inr w)))
    rw [← e]
    exact D a ha b hb hab
theorem settles_deals {n : Nat} {R : List (List Int)} {l r : List Int} (hlen : ∀ a ∈ R, a.length = n) (h : Settles R l r) : Deals n R l r := by
  intro a ha b hb hab
  have hr := h a ha b hb hab
  have e : dealt n a b l r = b := row_ext (dealt_length ..) (hlen b hb) fun c h0 h1 => by
    rw [at_dealt h0 h1]
    by_cases z : c ∈ l ∨ c ∈ r
    · rw [if_pos z]
      rcases z with z | z
      · exact pick_iff.mp hab c z
      · exact pick_iff.mp hr c z
    · rw [if_neg z]
  rw [e]
  exact hb

/-! the thinned rows -/
section
variable {α : Type} (f : α → List Int) (l r : List Int)
def unlike (row one : α) : Bool := decide (pick (f one) l = pick (f row) l) && !decide (pick (f one) r = pick (f row) r)
def thinStep (kept : List α) (row : α) : List α := if (kept.filter (unlike f l r row)).isEmpty then kept ++ [row] else kept
def thin (rows : List α) : List α := rows.foldl (thinStep f l r) []
theorem thin_take (rows : List α) (i : Nat) (x : α) (h : rows[i]? = some x) : thin f l r (rows.take (i + 1)) = thinStep f l r (thin f l r (rows.take i)) x := by
  have e : rows.take (i + 1) = rows.take i ++ [x] := by
    rw [List.take_add_one, h]
    rfl
  unfold thin
  rw [e, List.foldl_append]
  rfl
theorem thinStep_sub {kept : List α} {row x : α} (h : x ∈ thinStep f l r kept row) : x ∈ kept ∨ x = row := by
  unfold thinStep at h
  split at h
  · rcases List.mem_append.mp h with z | z
    · exact .inl z
    · exact .inr (List.mem_singleton.mp z)
  · exact .inl h
theorem thin_inv (P : List α → Prop) (h0 : P []) (hs : ∀ kept row, P kept → P (thinStep f l r kept row)) (rows : List α) : P (thin f l r rows) := by
  have key : ∀ (rows kept : List α), P kept → P (rows.foldl (thinStep f l r) kept) := by
    intro rows
    induction rows with
    | nil => intro kept h; exact h
    | cons x rows ih => intro kept h; exact ih _ (hs _ _ h)
  exact key rows [] h0
theorem thin_sub (rows : List α) : ∀ x ∈ thin f l r rows, x ∈ rows := by
  have key : ∀ (rows kept : List α), ∀ x ∈ rows.foldl (thinStep f l r) kept, x ∈ kept ∨ x ∈ rows := by
    intro rows
    induction rows with
    | nil => intro kept x h; exact .inl h
    | cons y rows ih =>
      intro kept x h
      rcases ih _ x h with z | z
      · rcases thinStep_sub f l r z with z | z
        · exact .inl z
        · exact .inr (by rw [z]; exact List.mem_cons_self)
      · exact .inr (List.mem_cons_of_mem _ z)
  intro x h
  rcases key rows [] x h with z | z
  · cases z
  · exact z
theorem thin_length (rows : List α) : (thin f l r rows).length ≤ rows.length := by
  have key : ∀ (rows kept : List α), (rows.foldl (thinStep f l r) kept).length ≤ kept.length + rows.length := by
    intro rows
    induction rows with
    | nil => intro kept; exact Nat.le_refl _
    | cons y rows ih =>
      intro kept
      have h1 := ih (thinStep f l r kept y)
      have h2 : (thinStep f l r kept y).length ≤ kept.length + 1 := by
        unfold thinStep
        split
        · rw [List.length_append]; exact Nat.le_refl _
        · omega
      rw [List.foldl_cons, List.length_cons]
      omega
  have z := key rows []
  rw [List.length_nil, Nat.zero_add] at z
  exact z
theorem thin_settles (rows : List α) : Settles ((thin f l r rows).map f) l r := by
  have key : ∀ a ∈ thin f l r rows, ∀ b ∈ thin f l r rows, pick (f a) l = pick (f b) l → pick (f a) r = pick (f b) r := by
    refine thin_inv f l r (fun kept => ∀ a ∈ kept, ∀ b ∈ kept, pick (f a) l = pick (f b) l → pick (f a) r = pick (f b) r) (fun a ha => by cases ha) (fun kept row h => ?_) rows
    unfold thinStep
    split
    · rename_i he
      have no : ∀ one ∈ kept, pick (f one) l = pick (f row) l → pick (f one) r = pick (f row) r := fun one ho hl => by
        rw [List.isEmpty_iff, List.filter_eq_nil_iff] at he
        have z := he one ho
        unfold unlike at z
        rw [decide_eq_true hl] at z
        by_cases y : pick (f one) r = pick (f row) r
        · exact y
        · rw [decide_eq_false y] at z
          exact absurd rfl z
      intro a ha b hb hab
      rcases List.mem_append.mp ha with ha | ha
      · rcases List.mem_append.mp hb with hb | hb
        · exact h a ha b hb hab
        · rw [List.mem_singleton.mp hb] at hab ⊢
          exact no a ha hab
      · rw [List.mem_singleton.mp ha] at hab ⊢
        rcases List.mem_append.mp hb with hb | hb
        · exact (no b hb hab.symm).symm
        · rw [List.mem_singleton.mp hb]
    · exact h
  intro a ha b hb hab
  obtain ⟨x, hx, ex⟩ := List.mem_map.mp ha
  obtain ⟨y, hy, ey⟩ := List.mem_map.mp hb
  rw [← ex, ← ey] at hab ⊢
  exact key x hx y hy hab
end
end N22
set_option Elab.async false
set_option linter.all false
set_option maxRecDepth 100000
set_option maxHeartbeats 2000000
/-! x in s, x not in s, for a set s of tuples of ints. -/
namespace N22
open PySem PySem.Spec PyProof.Rows L2
section
variable {P : Program} {w : World} {A : Around} {E : Value → Shared → Prop} {s : Shared} {a : Addr} {L : List (Addr × List Int)} {es : Array (Int × Value)} {ep : Nat} {t : SetTable}
/-- the c-th step of the way of the hash of k -/
abbrev stepP (P : Program) (w : World) (t : SetTable) (k : List Int) (c : Nat) : SetTable.Probe :=
  nth t.mask (runAt t.mask (SetTable.bits (thash P w k) % (t.mask + 1)) (SetTable.bits (thash P w k))) c
theorem stepP_dummy (k : List Int) (c : Nat) : (stepP P w t k c).dummy = none := by
  have all : ∀ (n : Nat) (p : SetTable.Probe), p.dummy = none → (nth t.mask p n).dummy = none := fun n => by
    induction n with
    | zero => exact fun p z => z
    | succ n ih =>
      intro p z
      refine ih _ ?_
      unfold adv
      split
      · exact z
      · exact z
  exact all c _ rfl
theorem stepP_add (k : List Int) (c q : Nat) : nth t.mask (stepP P w t k c) q = stepP P w t k (c + q) := (nth_add t.mask c _ q).symm
/-- what stands on the way of k from the c-th step on -/
def Ahead (P : Program) (w : World) (t : SetTable) (L : List (Addr × List Int)) (k : List Int) (K c : Nat) : Prop :=
  ∀ (i : Nat) (p : Addr × List Int), L[i]? = some p → p.2 = k → ∃ d, c ≤ d ∧ d < K ∧ t.place.toList[i]? = some (way t.mask (thash P w k) d)
theorem find_steps (R : SetTR P w s.heap a L es ep t) {x : Addr} {k : List Int} (hx : IsT P w s.heap k x) (hu : A.units < cLine) {K : Nat} (big : K < 10 * SetTable.turns t.mask)
    (stop : way t.mask (thash P w k) K ∉ t.place.toList) (full : ∀ c, c < K → way t.mask (thash P w k) c ∈ t.place.toList) {Q : SetFound → Shared → Prop}
    (yes : ∀ i, k ∈ L.map (·.2) → Q (.there (some i)) s) (no : ∀ j, k ∉ L.map (·.2) → Q (.free j false) s) (f : Nat) :
    ∀ (c : Nat) (stand : Option SetTable.Probe), stand.getD (t.probeStart (thash P w k)) = stepP P w t k c → c ≤ K → K - c < f → Ahead P w t L k K c →
      wpAny (model P w) A (setSearchFrom a (.ref x) (thash P w k) false f stand) Q E s := by
  induction f with
  | zero => exact fun c stand _ _ h0 => absurd h0 (Nat.not_lt_zero _)
  | succ f ih =>
    intro c stand hst hc hf ahead
    obtain ⟨o, ho, hex, hd⟩ := R.ob
    have hashes : ∀ (i : Nat) (p : Addr × List Int), L[i]? = some p → (es[i]?.map (·.1)).getD 0 = thash P w p.2 := fun i p hp => by
      rw [R.entry hp]
      rfl
    have js : ∀ q, (nth t.mask (stepP P w t k c) q).j = way t.mask (thash P w k) (c + q) := fun q => by rw [stepP_add]
    have toK : c + (K - c) = K := by omega
    have met := go_spec t R.tab.ris R.tab.dm (fun i => (es[i]?.map (·.1)).getD 0) (thash P w k) (10 * SetTable.turns t.mask) (K - c) _ (stepP_dummy (P := P) (w := w) (t := t) k c) (by omega)
      (fun q hq => by
        rw [js]
        exact full _ (by omega)) (by
        rw [js, toK]
        exact stop)
    rw [setSearchFrom_succ]
    refine wpAny_bind (wpAny_setState_of ho hd R.fits ?_)
    dsimp only
    refine wp_if_neg R.gw ?_
    rcases met with ⟨q, i, hq, hi, hh, before, hpr⟩ | ⟨before, hpr⟩
    · have hpr2 : t.probe (fun i => (es[i]?.map (·.1)).getD 0) (thash P w k) (stand.getD (t.probeStart (thash P w k))) = some (.candidate (way t.mask (thash P w k) (c + q)) i (stepP P w t k (c + (q + 1)))) := by
        rw [hst, ← js, ← stepP_add]
        exact hpr
      rw [js] at hi
      have hiL : i < L.length := by
        have z1 := (List.getElem?_eq_some_iff.mp hi).1
        have z2 := R.tab.sz
        rw [List.length_map] at z2
        rw [Array.length_toList] at z1
        omega
      obtain ⟨p, hp⟩ : ∃ p, L[i]? = some p := ⟨_, List.getElem?_eq_getElem hiL⟩
      have mem : p ∈ L := List.mem_of_getElem? hp
      have live : t.slot (way t.mask (thash P w k) (c + q)) = .live i := slot_live R.tab.ris hi
      have tailGoal : wpAny (model P w) A (searchRest a (.ref x) (thash P w k) false f es t (way t.mask (thash P w k) (c + q)) i (stepP P w t k (c + (q + 1)))) Q E s := by
        unfold searchRest
        rw [R.entry hp]
        dsimp only
        refine wpAny_bind (wpAny_holding (wpAny_eqBool_tuple hu (R.tup p mem) hx ?_))
        refine wpAny_bind (wpAny_setState_of ho hd R.fits ?_)
        dsimp only
        refine wp_if_neg (by simp) ?_
        rw [sameMem]
        dsimp only
        simp only [if_true, live, R.entry hp]
        refine wpAny_bind (wpAny_isSame_ref_self (wpAny_bind (wpAny_pure ?_)))
        simp only [if_true]
        by_cases hk : p.2 = k
        · refine wp_if_pos (by simp [hk]) ?_
          exact wpAny_pure (yes i (List.mem_map.mpr ⟨p, mem, hk⟩))
        · refine wp_if_neg (by simp [hk]) ?_
          refine ih (c + (q + 1)) _ rfl (by omega) (by omega) fun i2 p2 hi2 hk2 => ?_
          obtain ⟨d, d1, d2, d3⟩ := ahead i2 p2 hi2 hk2
          have hash2 := (hashes i2 p2 hi2).trans (congrArg (thash P w) hk2)
          have ne1 : ¬ d < c + q := fun z => before (d - c) i2 (by omega) (by
            rw [js, show c + (d - c) = d by omega]
            exact d3) hash2
          have ne2 : d ≠ c + q := fun z => by
            rw [z] at d3
            have l2 := slot_live R.tab.ris d3
            rw [live] at l2
            injection l2 with l2
            rw [← l2, hp] at hi2
            exact hk (by rw [Option.some.inj hi2]; exact hk2)
          exact ⟨d, by omega, d2, d3⟩
      rw [hpr2]
      dsimp only
      by_cases hl : t.led = true
      · refine wp_if_neg (by simp [hl]) ?_
        exact tailGoal
      · refine wp_if_pos (by simp [hl]) ?_
        refine wpAny_bind (seen_tup hx (fun y hy => ?_) ?_)
        · obtain ⟨e, he, ee⟩ := List.mem_map.mp hy
          have he2 : e ∈ es.toList := by
            have z : e ∈ es ∧ e.1 = thash P w k := by simpa using he
            simpa using z.1
          rw [R.rows] at he2
          obtain ⟨p2, m2, e2⟩ := List.mem_map.mp he2
          exact ⟨p2.2, p2.1, by rw [← ee, ← e2], R.tup p2 m2⟩
        · refine wp_if_neg (by decide) ?_
          exact tailGoal
    · have hpr2 : t.probe (fun i => (es[i]?.map (·.1)).getD 0) (thash P w k) (stand.getD (t.probeStart (thash P w k))) = some (.empty (nth t.mask (stepP P w t k c) (K - c)).j none) := by
        rw [hst]
        exact hpr
      rw [hpr2]
      dsimp only
      refine wpAny_pure (no _ fun hm => ?_)
      obtain ⟨p, mem, hk⟩ := List.mem_map.mp hm
      obtain ⟨i, hiL, ei⟩ := List.getElem_of_mem mem
      have hp : L[i]? = some p := by rw [List.getElem?_eq_getElem hiL, ei]
      obtain ⟨d, d1, d2, d3⟩ := ahead i p hp hk
      exact before (d - c) i (by omega) (by
        rw [js, show c + (d - c) = d by omega]
        exact d3) ((hashes i p hp).trans (congrArg (thash P w) hk))
theorem find_tup (R : SetTR P w s.heap a L es ep t) {x : Addr} {k : List Int} (hx : IsT P w s.heap k x) (hu : A.units < cLine) {Q : Option Nat → Shared → Prop}
    (h : ∀ r : Option Nat, r.isSome = decide (k ∈ L.map (·.2)) → Q r s) : wpAny (model P w) A (setFind a (.ref x) (thash P w k)) Q E s := by
  obtain ⟨o, ho, hex, hd⟩ := R.ob
  have room := R.room
  obtain ⟨K, big, stop, full⟩ := R.tab.first (by
    rw [List.length_map]
    omega) (thash P w k)
  have small : K < 100000 := by
    have z : 10 * SetTable.turns t.mask ≤ 1420 := by
      unfold SetTable.turns
      rcases R.tab.mok with e | e | e <;> omega
    omega
  unfold setFind
  rw [show (100000 : Nat) = 99999 + 1 from rfl]
  unfold setFindIn
  refine wpAny_bind (wpAny_setState_of ho hd R.fits ?_)
  dsimp only
  refine wp_if_neg (by simp [byScan, Value.scannable]) ?_
  unfold setSearch
  refine wpAny_bind (find_steps R hx hu big stop full (fun i hm => ?_) (fun j hm => ?_) 100000 0 none rfl (Nat.zero_le _) (by omega) fun i p hp hk => ?_)
  · exact wpAny_pure (h (some i) (by rw [decide_eq_true hm]; rfl))
  · exact wpAny_pure (h none (by rw [decide_eq_false hm]; rfl))
  · have hi : (L.map fun p => thash P w p.2)[i]? = some (thash P w k) := by
      rw [List.getElem?_map, hp, ← hk]
      rfl
    have hil : i < t.place.toList.length := by
      have z1 := (List.getElem?_eq_some_iff.mp hp).1
      have z2 := R.tab.sz
      rw [List.length_map] at z2
      rw [Array.length_toList]
      omega
    have hj := List.getElem?_eq_getElem hil
    obtain ⟨d, hd2, e⟩ := R.tab.before stop hi hj
    exact ⟨d, Nat.zero_le _, hd2, by rw [hj, e]⟩
/-- the question that in and not in ask -/
theorem has_tup (R : SetTR P w s.heap a L es ep t) {x : Addr} {k : List Int} (hx : IsT P w s.heap k x) (hu : A.units + 64 < cLine) {Q : Bool → Shared → Prop}
    (h : ∀ tk, Q (decide (k ∈ L.map (·.2))) { s with toks := tk }) : wpAny (model P w) A (contains (.ref a) (.ref x)) Q E s := by
  obtain ⟨o, ho, hex, hd⟩ := R.ob
  have hT : s.TypeIs (.ref a) "set" := ⟨o, ho, hex.1⟩
  unfold contains
  try with_reducible refine wpAny_holding ?_
  refine wpAny_bind (wpAny_specialOf hT F.slot_set_contains.lookup ?_)
  refine wp_if_neg (by rw [beq_builtin_none]; exact Bool.false_ne_true) ?_
  refine wpAny_bind (wpAny_callSpecialUnlessNone?_slot (name := Str.ofString "__contains__") hT F.slot_set_contains
    (wpAny_call_entry F.slot_set_contains hT entry_set_contains ?_ (F.args_set_contains_2 _ _)))
  unfold Builtin.«frozenset.__contains__» Builtin.Frozenset.oneOther
  simp only [List.isEmpty_nil, bind_assoc]
  unfold Builtin.Frozenset.addrOf Builtin.Frozenset.withSetAsKey setContains
  refine wpAny_bind (wpAny_pure ?_)
  try dsimp only
  refine wpAny_bind (wpAny_pure ?_)
  try dsimp only
  refine wpAny_bind (wpAny_tryCatch ?_)
  refine wpAny_holding ?_
  have hu1 : A.in1.units < cLine := by
    have z : A.in1.units ≤ A.units + 1 := by
      first | exact Nat.le_refl _ | (unfold Around.in1; simp [Around.units]) | omega
    omega
  refine wpAny_bind (wpAny_pyHash_tuple hu1 hx ?_)
  refine wpAny_bind (find_tup (s := { s with toks := s.toks + (k.length + 1) }) R hx hu1 fun r hr => ?_)
  refine wpAny_pure ?_
  show wpAny _ _ (ret (Value.bool r.isSome)) _ _ _
  rw [hr]
  exact wpAny_pure ⟨_, rfl, wpAny_truthy_bool (h _)⟩
end
section
variable {X : Cx}
/-- t in s, t not in s -/
def rTin (neg : Bool) (K : PySem.W.Frag) (P : Program) (w : World) : V → V → Hp → VK → Prop := fun x y H Q => ∃ (t a : Addr) (k : List Int) (L : List (Addr × List Int)), x = V.ref t ∧ y = V.ref a ∧ SqT K H t (k.map V.int) ∧ H a = some (SetTO P w a L) ∧
  (∀ p ∈ L, SqT K H p.1 (p.2.map V.int)) ∧ Q (.bl (neg ^^ decide (k ∈ L.map (·.2)))) H
theorem op_tin (hu : X.A.units + 64 < cLine) : OpR X (compareOp .In) (rTin false X.K X.prog X.w) := by
  intro pins s σ H x y v u Q I rx ry h
  obtain ⟨t, a, k, L, rfl, rfl, ht, ha, hk, q⟩ := h
  cases rx
  cases ry
  have R0 : SetT0 X.prog X.w s.heap a L := (I.hok a _ ha).1
  obtain ⟨es, ep, tb, R⟩ := R0.full fun p hp => I.isT (hk p hp)
  show wpAny (model X.prog X.w) X.A (do return Value.bool (← contains (.ref a) (.ref t))) _ _ s
  refine wpAny_bind (has_tup R (I.isT ht) hu fun tk => wpAny_pure ?_)
  rw [Bool.false_xor] at q
  exact ⟨.bl _, H, I.tok _, rfl, q⟩
theorem op_tnotin (hu : X.A.units + 64 < cLine) : OpR X (compareOp .NotIn) (rTin true X.K X.prog X.w) := by
  intro pins s σ H x y v u Q I rx ry h
  obtain ⟨t, a, k, L, rfl, rfl, ht, ha, hk, q⟩ := h
  cases rx
  cases ry
  have R0 : SetT0 X.prog X.w s.heap a L := (I.hok a _ ha).1
  obtain ⟨es, ep, tb, R⟩ := R0.full fun p hp => I.isT (hk p hp)
  show wpAny (model X.prog X.w) X.A (do return Value.bool (!(← contains (.ref a) (.ref t)))) _ _ s
  refine wpAny_bind (has_tup R (I.isT ht) hu fun tk => wpAny_pure ?_)
  rw [Bool.true_xor] at q
  exact ⟨.bl _, H, I.tok _, rfl, q⟩
end
end N22
set_option Elab.async false
set_option linter.all false
set_option maxRecDepth 100000
set_option maxHeartbeats 2000000
/-! sorted(s) for a set s of tuples of ints of any size and sign; set(t) of a tuple of ints as a value; a product of great ints. -/
namespace N22
open PySem PySem.Spec PyProof.Rows L2
/-- ints moved by c -/
def sh (c : Int) (ns : List Int) : List Int := ns.map fun m => m + c
theorem sh_length (c : Int) (ns : List Int) : (sh c ns).length = ns.length := List.length_map _
theorem sh_cons (c m : Int) (ns : List Int) : sh c (m :: ns) = (m + c) :: sh c ns := rfl
/-- some move brings all of finitely many ints between 0 and some bound -/
theorem some_sh : ∀ all : List (List Int), ∃ c B : Int, ∀ ns ∈ all, TS.Bd B (sh c ns) := by
  have one : ∀ ns : List Int, ∃ M : Nat, ∀ m ∈ ns, m.natAbs ≤ M := fun ns => by
    induction ns with
    | nil => exact ⟨0, fun m hm => by cases hm⟩
    | cons m ns ih =>
      obtain ⟨M, h⟩ := ih
      refine ⟨max m.natAbs M, fun k hk => ?_⟩
      rcases List.mem_cons.mp hk with e | hk
      · rw [e]
        exact Nat.le_max_left _ _
      · exact Nat.le_trans (h k hk) (Nat.le_max_right _ _)
  have lots : ∀ all : List (List Int), ∃ M : Nat, ∀ ns ∈ all, ∀ m ∈ ns, m.natAbs ≤ M := fun all => by
    induction all with
    | nil => exact ⟨0, fun ns h => by cases h⟩
    | cons ns all ih =>
      obtain ⟨M, h⟩ := ih
      obtain ⟨M', h'⟩ := one ns
      refine ⟨max M' M, fun k hk m hm => ?_⟩
      rcases List.mem_cons.mp hk with e | hk
      · rw [e] at hm
        exact Nat.le_trans (h' m hm) (Nat.le_max_left _ _)
      · exact Nat.le_trans (h k hk m hm) (Nat.le_max_right _ _)
  intro all
  obtain ⟨M, h⟩ := lots all
  refine ⟨(M : Int), 2 * (M : Int) + 1, fun ns hns k hk => ?_⟩
  obtain ⟨m, hm, e⟩ := List.mem_map.mp hk
  have z := h ns hns m hm
  omega
/-- tuples of d ints, moved by c between 0 and B -/
def TupsSh (h : Heap) (d : Nat) (B c : Int) (vs : List Value) : Prop := ∀ v, v ∈ vs → ∃ ns, TS.TupInts h v ns ∧ ns.length = d ∧ TS.Bd B (sh c ns)
section
variable {prog : Program} {w : World} {A : Around} {E : Value → Shared → Prop} {s : Shared}
theorem lex_sh {B c : Int} {b : Bool} {Q : Bool → Shared → Prop} {xs : List Value} {ns : List Int} (hx : IntsAre xs ns) : ∀ {ys : List Value} {ms : List Int} (i : Nat), IntsAre ys ms → ns.length = ms.length → TS.Bd B (sh c ns) → TS.Bd B (sh c ms) →
    Q (decide (TS.code B (sh c ns) < TS.code B (sh c ms))) s → PySem.W.KatLex prog w A b false Q (xs.zip ys) i s := by
  induction hx with
  | nil =>
    intro ys ms i hy hl h1 h2 h
    cases hy with
    | nil =>
      rw [decide_eq_false (Int.lt_irrefl _)] at h
      exact PySem.W.kat_nil h
    | cons q u hy => exact absurd hl (by simp)
  | @cons p t xs ns hx ih =>
    intro ys ms i hy hl h1 h2 h
    cases hy with
    | nil => exact absurd hl (by simp)
    | @cons q u ys ms hy =>
      have hl2 : ns.length = ms.length := by simpa using hl
      have hl3 : (sh c ns).length = (sh c ms).length := by rw [sh_length, sh_length, hl2]
      rw [sh_cons] at h1 h2 h
      rw [sh_cons] at h
      refine PySem.W.kat_cons (wpAny_eqBool_int ?_)
      by_cases e : p = q
      · rw [← e, beq_self_eq_true]
        rw [← e, decide_eq_decide.mpr (TS.code_same hl3)] at h
        refine PySem.W.kat_yes ?_
        exact ih (i + 1) hy hl2 h1.tail h2.tail h
      · rw [show (p == q) = false from beq_eq_false_iff_ne.mpr e]
        refine PySem.W.kat_no (TS.oneLt_ints _ ?_)
        have z : TS.code B ((p + c) :: sh c ns) < TS.code B ((q + c) :: sh c ms) ↔ p < q := by
          constructor
          · intro less
            rcases Int.lt_trichotomy p q with y | y | y
            · exact y
            · exact absurd y e
            · have more := TS.code_lt (d := q + c) (e := p + c) hl3.symm h2.tail h1.tail (by omega)
              omega
          · exact fun less => TS.code_lt hl3 h1.tail h2.tail (by omega)
        rw [decide_eq_decide.mpr z] at h
        exact h
theorem firsts_sh {h : Heap} {d : Nat} {B c : Int} (hd : 1 ≤ d) (vs : List Value) : TupsSh h d B c vs → ∃ fs, PySem.W.KatTups h vs fs ∧ fs.length = vs.length ∧ ∀ f, f ∈ fs → ∃ n t, f = Value.int n t := by
  induction vs with
  | nil => exact fun _ => ⟨[], PySem.W.KatTups.nil, rfl, fun f hf => by cases hf⟩
  | cons v vs ih =>
    intro x
    obtain ⟨fs, k, hl, hi⟩ := ih fun u hu => x u (List.mem_cons_of_mem _ hu)
    obtain ⟨ns, ⟨a, xs, e, ⟨o, ho, hc, n, hdt⟩, i⟩, hn, _⟩ := x v List.mem_cons_self
    have hne : xs.toList ≠ [] := fun z => by
      rw [z] at i
      have l := i.length
      rw [List.length_nil, hn] at l
      omega
    obtain ⟨y, ys, ey⟩ := List.exists_cons_of_ne_nil hne
    obtain ⟨m, t, hy⟩ := i.all y (by rw [ey]; exact List.mem_cons_self)
    have h0 : xs[0]? = some y := by
      rw [← Array.getElem?_toList, ey]
      rfl
    rw [e]
    refine ⟨y :: fs, PySem.W.KatTups.cons ho hc hdt h0 k, by rw [List.length_cons, List.length_cons, hl], fun f hf => ?_⟩
    rcases List.mem_cons.mp hf with z | z
    · exact ⟨m, t, z.trans hy⟩
    · exact hi f z
theorem kind_sh {d : Nat} {B c : Int} {vs : List Value} (hd : 1 ≤ d) (h2 : 2 ≤ vs.length) (x : TupsSh s.heap d B c vs) (r : Value → Int) (hr : ∀ v, v ∈ vs → ∀ ns, TS.TupInts s.heap v ns → r v = TS.code B (sh c ns)) (Q : SortKind → Shared → Prop)
    (h : ∀ κ, TS.Cmp prog w A s κ (pairsOf vs) r → Q κ s) : wpAny (model prog w) A (keyKind' vs.toArray) Q E s := by
  obtain ⟨fs, k, hl, hi⟩ := firsts_sh hd vs x
  refine PySem.W.kat_kind (T := Value.type "int") k (by omega) (fun f hf => ?_) rfl (h _ fun p q hp hq Q' E' hQ => ?_)
  · obtain ⟨n, t, e⟩ := hi f hf
    rw [e]
    exact PySem.W.Looks.of_pure rfl
  · rw [pairsOf_toList] at hp hq
    have mp := (mem_zip_self hp).2
    have mq := (mem_zip_self hq).2
    obtain ⟨ns, tp, lp, bp⟩ := x _ mp
    obtain ⟨ms, tq, lq, bq⟩ := x _ mq
    rw [hr _ mp _ tp, hr _ mq _ tq] at hQ
    obtain ⟨a, xs, e1, ⟨o, ho, hc, n, hdt⟩, i⟩ := tp
    obtain ⟨a', ys, e2, ⟨o', ho', hc', n', hdt'⟩, i'⟩ := tq
    have sizes : decide (xs.size < ys.size) = false := by
      have l1 := i.length
      have l2 := i'.length
      rw [Array.length_toList] at l1 l2
      exact decide_eq_false (by omega)
    rw [e1, e2]
    refine PySem.W.kat_lt ho hdt ho' hdt' ?_
    rw [sizes]
    exact lex_sh i 0 i' (by omega) bp bq hQ
/-- xs.sort() of tuples of ints -/
theorem sort_sh {a : Addr} {vs : List Value} {n d : Nat} {B c : Int} {Q : Value → Shared → Prop} (ho : s.heap.get? a = some (seqObj "list" vs.toArray n)) (h64 : vs.length < 64) (hd : 1 ≤ d) (x : TupsSh s.heap d B c vs)
    (h : ∀ out : Array Value, out.toList.Perm vs → Q .none { s with heap := sortedHeap s.heap a vs out }) : wpAny (model prog w) A (call (.builtin "list.sort") [.ref a]) Q E s := by
  have keep : ∀ b o, s.heap.get? b = some o → o.cls = .type "tuple" → (TS.midHeap s.heap a vs).get? b = some o := fun b o e hc => by
    by_cases hb : b = a
    · rw [hb, ho] at e
      rw [← Option.some.inj e] at hc
      have z : Value.type "list" = Value.type "tuple" := hc
      injection z with z
      exact absurd z (by decide)
    · exact TS.midHeap_old hb e
  refine wpAny_call_entry slot_list_sort ⟨_, ho, rfl⟩ entry_list_sort ?_ (args_list_sort _)
  refine SK.plain_sort (r := fun v => TS.code B (sh c (TS.intsOf s.heap v))) ho h64 (fun h2 R hR => ?_) fun ps out h1 h2 h3 => ⟨_, rfl, h out (TS.out_rank (r := fun v => TS.code B (sh c (TS.intsOf s.heap v))) h1 h2 h3).1⟩
  refine kind_sh (c := c) (B := B) (s := { s with heap := TS.midHeap s.heap a vs }) hd h2 (fun v hv => ?_) _ (fun v hv ns t => ?_) R hR
  · obtain ⟨ns, t, z⟩ := x v hv
    exact ⟨ns, t.keeps keep, z⟩
  · obtain ⟨ns0, t0, _⟩ := x v hv
    have e : ns = ns0 := t.ints.symm.trans (t0.keeps keep).ints
    rw [e, t0.ints]
end
section
variable {P : Program} {w : World} {A : Around} {E : Value → Shared → Prop} {s : Shared}
/-- values that are the addresses of members -/
theorem back_to {L : List (Addr × List Int)} (vs : List Value) : (∀ v ∈ vs, ∃ q ∈ L, v = Value.ref q.1) → ∃ L1 : List (Addr × List Int), vs = L1.map (fun q => Value.ref q.1) ∧ ∀ q ∈ L1, q ∈ L := by
  induction vs with
  | nil => exact fun _ => ⟨[], rfl, fun q hq => by cases hq⟩
  | cons v vs ih =>
    intro hv
    obtain ⟨q, hq, e⟩ := hv v List.mem_cons_self
    obtain ⟨L1, e1, h1⟩ := ih fun u hu => hv u (List.mem_cons_of_mem _ hu)
    refine ⟨q :: L1, by rw [e, e1]; rfl, fun r hr => ?_⟩
    rcases List.mem_cons.mp hr with z | z
    · rw [z]
      exact hq
    · exact h1 r z
theorem sorted_tset {a : Addr} {L : List (Addr × List Int)} {es : Array (Int × Value)} {ep : Nat} {t : SetTable} {Q : Value → Shared → Prop} (R : SetTR P w s.heap a L es ep t) (hh : A.handled = none) {d : Nat} (hd1 : 1 ≤ d) (hL : ∀ p ∈ L, p.2.length = d)
    (hQ : ∀ s' p (out : Array Value) (c : Nat) (L' : List (Addr × List Int)), (∀ b o, s.heap.get? b = some o → s'.heap.get? b = some o) → s'.gens = s.gens → s'.os = s.os → s.heap.objs.size ≤ p →
      s'.heap.get? p = some (seqObj "list" out c) → out.toList = L'.map (fun q => Value.ref q.1) → L'.Perm L → Q (.ref p) s') : wpAny (model P w) A (call (.builtin "sorted") [.ref a]) Q E s := by
  obtain ⟨o, ho, hex, hd⟩ := R.ob
  have hsz := R.size
  have hfew := R.few
  obtain ⟨c, B, hcB⟩ := some_sh (L.map (·.2))
  refine Calls.call_function_entry kind_sorted plain_sorted entry_sorted (args_sorted1 _) ?_
  unfold Builtin.«sorted»
  refine wpAny_bind (m := checkCount "sorted" 1 1 _) (wpAny_pure ?_)
  refine wpAny_bind (collect_set (A := A.in1) hh ⟨o, ho, hex.1, hd⟩ R.fits (by unfold scanBound; omega) R.tab.ris R.led fun s1 vs k1 hz g1 o1 pm => ?_)
  have vals : es.toList.map (·.2) = L.map fun q => Value.ref q.1 := by
    rw [R.rows]
    unfold rowsOf
    rw [List.map_map]
    rfl
  rw [vals] at pm
  -- one address bears one key
  have one : ∀ q ∈ L, ∀ r ∈ L, q.1 = r.1 → q = r := fun q hq r hr e => by
    have tq := R.tup q hq
    rw [e] at tq
    exact Prod.ext e (tq.inj (R.tup r hr))
  have nL : L.Nodup := nodup_of_map R.nd
  have nref : (L.map fun q => Value.ref q.1).Nodup := List.pairwise_map.mpr (List.Pairwise.imp_of_mem (fun {q r} hq hr hne e => by
    injection e with e
    exact hne (one q hq r hr e)) nL)
  have from_vs : ∀ v ∈ vs, ∃ q ∈ L, v = Value.ref q.1 := fun v hv => by
    obtain ⟨q, hq, e⟩ := List.mem_map.mp (pm.mem_iff.mp hv)
    exact ⟨q, hq, e.symm⟩
  have hvl : vs.length < 64 := by
    rw [pm.length_eq, List.length_map]
    exact hfew
  refine wpAny_bind (wpAny_newList ?_ (by rw [sizeLine_eq]; omega))
  have hoL : (s1.heap.push (seqObj "list" vs.toArray 0)).get? s1.heap.objs.size = some (seqObj "list" vs.toArray 0) := Heap.get?_push_size _ rfl
  have x : TupsSh (s1.heap.push (seqObj "list" vs.toArray 0)) d B c vs := fun v hv => by
    obtain ⟨q, hq, e⟩ := from_vs v hv
    rw [e]
    exact ⟨q.2, tupInts_of (P := P) (w := w) (isT_keep (R.tup q hq) fun b u e => Heap.get?_push_of_some _ (k1 b u e)), hL q hq, hcB q.2 (List.mem_map.mpr ⟨q, hq, rfl⟩)⟩
  refine wpAny_bind (wpAny_holding (sort_sh (s := { s1 with heap := s1.heap.push (seqObj "list" vs.toArray 0) }) hoL hvl hd1 x fun out a1 => ?_))
  obtain ⟨n, hn⟩ := sortedHeap_at (vs := vs) (out := out) hoL
  obtain ⟨L', e', sub⟩ := back_to (L := L) out.toList fun v hv => from_vs v (a1.mem_iff.mp hv)
  have pL : L'.Perm L := by
    have n1 : L'.Nodup := nodup_of_map (f := fun q : Addr × List Int => Value.ref q.1) (by
      rw [← e']
      exact (a1.trans pm).nodup_iff.mpr nref)
    refine (List.perm_ext_iff_of_nodup n1 nL).mpr fun q => ⟨sub q, fun hq => ?_⟩
    have m : Value.ref q.1 ∈ L'.map fun r => Value.ref r.1 := by
      rw [← e']
      exact (a1.trans pm).mem_iff.mpr (List.mem_map.mpr ⟨q, hq, rfl⟩)
    obtain ⟨r, hr, e⟩ := List.mem_map.mp m
    injection e with e
    rw [← one r (sub r hr) q hq e]
    exact hr
  refine wpAny_pure ⟨_, rfl, hQ _ s1.heap.objs.size out n L' (fun b u e => ?_) g1 o1 hz hn e' pL⟩
  have q := k1 b u e
  have hlt := Heap.lt_size q
  show (sortedHeap (s1.heap.push (seqObj "list" vs.toArray 0)) s1.heap.objs.size vs out).get? b = some u
  rw [sortedHeap_old (Nat.ne_of_lt hlt) (by rw [size_push']; exact Nat.lt_succ_of_lt hlt)]
  exact Heap.get?_push_of_some _ q
end
section
variable {X : Cx}
/-- sorted(s), s a set of tuples of d ints: a list of its members -/
def rSortT (K : PySem.W.Frag) (P : Program) (w : World) : List V → Hp → VK → Prop := fun vs H Q => ∃ (a : Addr) (L : List (Addr × List Int)) (d : Nat), vs = [V.ref a] ∧ H a = some (SetTO P w a L) ∧ (∀ p ∈ L, SqT K H p.1 (p.2.map V.int)) ∧ 1 ≤ d ∧
  (∀ p ∈ L, p.2.length = d) ∧ ∀ (L' : List (Addr × List Int)) (p : Addr), L'.Perm L → (L'.map (·.2)).Nodup → L'.length < 64 → H p = none → Q (.ref p) (upd H p (.lst (L'.map fun q => V.ref q.1)))
theorem cr_sortTany (hc : X.calm = true) : CallR X (.builtin "sorted") (rSortT X.K X.prog X.w) := by
  intro pins s σ H vs us Q I r h
  obtain ⟨a, L, d, e0, ha, hk, hd, hL, q⟩ := h
  subst e0
  have R0 : SetT0 X.prog X.w s.heap a L := (I.hok a _ ha).1
  obtain ⟨es, ep, t, R⟩ := R0.full fun p hp => I.isT (hk p hp)
  rw [Vals.ref1 r]
  refine sorted_tset R (I.ok.hd hc) hd hL fun s' p out c L' k g o hp hg hout pm => ?_
  have hfew : L'.length < 64 := by
    rw [pm.length_eq]
    exact R.few
  have hlen : (L'.map fun q => V.ref q.1).length ≤ sizeLine := by
    rw [List.length_map, sizeLine_eq]
    omega
  have hn : H p = none := I.hok.fresh hp
  have hv : Vals (L'.map fun q => V.ref q.1) out.toList := by
    rw [hout]
    exact vals_of_refs L'
  have J : Inv X pins σ (upd H p (.lst (L'.map fun q => V.ref q.1))) s' :=
    I.call' (ch := []) o (Un.laid k hp hn) (I.hok.laid k hp ⟨hlen, out.toList, c, hv, hg⟩) (by rw [g]; exact I.bare) (fun _ z => nomatch z)
  exact ⟨.ref p, _, J, rfl, q L' p pm ((pm.map (·.2)).nodup_iff.mpr R.nd) hfew hn⟩
/-- set(t), t a tuple of ints -/
def rSetI (K : PySem.W.Frag) (w : World) : List V → Hp → VK → Prop := fun vs H Q => ∃ (a : Addr) (ns : List Int), vs = [V.ref a] ∧ SqT K H a (ns.map V.int) ∧ ns.length ≤ 1000 ∧
  ∀ (p : Addr) (n : Nat), H p = none → n ≤ ns.length → Q (.ref p) (upd H p (SetO w p (fun j => decide (j ∈ ns)) n))
theorem cr_setI (hc : X.calm = true) : CallR X (.type "set") (rSetI X.K X.w) := by
  intro pins s σ H vs us Q I r h
  obtain ⟨a, ns, e0, ha, hl, q⟩ := h
  subst e0
  rw [Vals.ref1 r]
  obtain ⟨its, rv, pt, hz⟩ := I.tuple ha
  have hi : IntsAre its.toArray.toList ns := ints_of_vals rv
  refine call_set_tupI ns (I.ok.hd hc) (show s.heap.IsTuple a its.toArray from pt) hi (by unfold scanBound; omega) fun h' tk c R1 hcn k => ?_
  have hn : H s.heap.objs.size = none := I.hok.fresh (Nat.le_refl _)
  exact ⟨.ref s.heap.objs.size, _, I.laid (t' := tk) k (Nat.le_refl _) (setO_new R1), rfl, q _ c hn hcn⟩
/-- a product, as long as the model's memory bears it -/
def CMulB (i j : Int) : Prop := IntMulOk i j
theorem op_mulB : OpR X (binaryOp .Mult) (rI CMulB fun i j => .int (i * j)) := opI fun _ _ _ _ _ _ _ hc q => mul_int q hc
theorem mulB_of {i j : Int} (hi : Builtin.Int.intBits i ≤ 1048576) (hj : Builtin.Int.intBits j ≤ 1048576) : CMulB i j := by
  have e : bitsLine = 134217728 := by decide
  unfold CMulB IntMulOk
  intro z
  rw [Bool.and_eq_true] at z
  have z2 := z.2
  unfold Builtin.Int.intTooBig at z2
  have z3 := of_decide_eq_true z2
  rw [e] at z3
  omega
end
end N22
set_option Elab.async false
set_option linter.all false
set_option maxRecDepth 100000
set_option maxHeartbeats 2000000
/-! zip of a list and a tuple. -/
namespace N22
open PySem PySem.Spec PyProof.Rows L2 RZ
section
variable {prog : Program} {w : World} {A : Around} {E : Value → Shared → Prop} {s : Shared} {z TI TO i1 i2 l1 l2 : Addr} {k : Nat} {xs ys : Array Value}
/-- the zip at z stands at its k-th turn, of the list l1 and the tuple l2 -/
structure ZAt (h : Heap) (z TI TO i1 i2 l1 l2 : Addr) (k : Nat) : Prop where
  zip : IsZip h z TI TO .none
  ins : IsPair h TI (.ref i1) (.ref i2)
  out : ∃ a b, IsPair h TO a b
  one : h.IsListIter i1 l1 k
  two : h.IsTupleIter i2 l2 k
abbrev Others (z TO i1 i2 : Addr) (h h' : Heap) : Prop := ∀ c o, c ≠ z → c ≠ TO → c ≠ i1 → c ≠ i2 → h.get? c = some o → h'.get? c = some o
theorem zmix_item {x y : Value} {Q : Value → Shared → Prop} (D : ZipApart z TI TO i1 i2 l1 l2) (Z : ZAt s.heap z TI TO i1 i2 l1 l2 k) (hl1 : s.heap.IsList l1 xs) (hl2 : s.heap.IsTuple l2 ys) (hx : xs[k]? = some x) (hy : ys[k]? = some y)
    (hQ : ∀ h', IsZip h' z TI TO (rawInt s.heap.objs.size) → IsPair h' TO x y → h'.IsListIter i1 l1 (k + 1) → h'.IsTupleIter i2 l2 (k + 1) → IsPair h' s.heap.objs.size x y → Others z TO i1 i2 s.heap h' → Q (.ref s.heap.objs.size) { s with heap := h' }) :
    wpAny (model prog w) A (Builtin.«zip.__next__» ⟨[.ref z], []⟩) (fun fin s' => ∃ v, fin = .done (.ret v) ∧ Q v s') E s := by
  obtain ⟨hz, hTI, ⟨a, b, hTO⟩, h1, h2⟩ := Z
  show wpAny _ _ (field (.ref z) 2 >>= _) _ _ _
  refine wpAny_bind (wpAny_field hz rfl (x := .bool false) rfl ?_)
  show wpAny _ _ (field (.ref z) 3 >>= _) _ _ _
  refine wpAny_bind (wpAny_field hz rfl (x := .ref TI) rfl (wpAny_bind (wpAny_seqItems hTI rfl ?_)))
  show wpAny _ _ (Builtin.SmallTypes.ownedTupleIsFree (.ref z) >>= _) _ _ _
  refine wpAny_bind ?_
  unfold Builtin.SmallTypes.ownedTupleIsFree
  refine wpAny_bind (wpAny_field hz rfl (x := .none) rfl (wpAny_pure ?_))
  simp only [if_true]
  refine wpAny_bind (wpAny_rule (wpAny_bind (wpAny_field hz rfl (x := .ref TO) rfl ?_)))
  refine wpAny_bind (wpAny_setField_rec hz (by simp) fun ha za sa => ?_)
  replace za : IsZip ha z TI TO .ellipsis := za
  refine wpAny_bind ?_
  simp only [List.zipIdx_cons, List.zipIdx_nil, List.forIn_cons, List.forIn_nil]
  -- the list's item
  refine wpAny_bind (wpAny_bind (wpAny_onRaise ?_))
  show wpAny _ _ (Builtin.SmallTypes.nextOf (.ref i1) >>= _) _ _ _
  refine wpAny_bind (wpAny_nextOf_list_item (h1.extBut sa.extBut D.i1z) (hl1.extBut sa.extBut D.l1z) hx fun hb ib sb => wpAny_pure ?_)
  have TOb : IsPair hb TO a b := sb.extBut _ _ D.TOi1 (sa.extBut _ _ D.TOz hTO)
  refine wpAny_bind (wpAny_seqItems TOb rfl (wpAny_bind (wpAny_updateSeq_pair TOb fun hc TOc sc => ?_)))
  replace TOc : IsPair hc TO x b := TOc
  refine wpAny_bind (wpAny_letGo (wpAny_pure ?_))
  -- the tuple's item
  refine wpAny_bind (wpAny_bind (wpAny_onRaise ?_))
  show wpAny _ _ (Builtin.SmallTypes.nextOf (.ref i2) >>= _) _ _ _
  have i2c := ((h2.extBut sa.extBut D.i2z).extBut sb.extBut D.i12.symm).extBut sc.extBut D.TOi2.symm
  have l2c := ((hl2.extBut sa.extBut D.l2z).extBut sb.extBut D.l2i1).extBut sc.extBut D.l2TO
  refine wpAny_bind (nextOf_tuple_item i2c l2c hy fun hd id sd => wpAny_pure ?_)
  have TOd : IsPair hd TO x b := sd.extBut _ _ D.TOi2 TOc
  refine wpAny_bind (wpAny_seqItems TOd rfl (wpAny_bind (wpAny_updateSeq_pair TOd fun he TOe se => ?_)))
  replace TOe : IsPair he TO x y := TOe
  refine wpAny_bind (wpAny_letGo (wpAny_pure (wpAny_pure ?_)))
  -- the new pair
  refine wpAny_bind (wpAny_seqItems TOe rfl (wpAny_bind (wpAny_newTuple ?_)))
  have size : he.objs.size = s.heap.objs.size := by rw [se.1, sd.1, sc.1, sb.1, sa.1]
  have ze : IsZip he z TI TO .ellipsis := se.extBut _ _ D.TOz.symm (sd.extBut _ _ D.i2z.symm (sc.extBut _ _ D.TOz.symm (sb.extBut _ _ D.i1z.symm za)))
  have kept : Others z TO i1 i2 s.heap he := fun c o c1 c2 c3 c4 e => se.extBut _ _ c2 (sd.extBut _ _ c4 (sc.extBut _ _ c2 (sb.extBut _ _ c3 (sa.extBut _ _ c1 e))))
  have ie : he.IsListIter i1 l1 (k + 1) := ((ib.extBut sc.extBut D.TOi1.symm).extBut sd.extBut D.i12).extBut se.extBut D.TOi1.symm
  have je : he.IsTupleIter i2 l2 (k + 1) := id.extBut se.extBut D.TOi2.symm
  have zlt : z < he.objs.size := Heap.lt_size ze
  show wpAny _ _ (Builtin.SmallTypes.ownedTupleHandOut (.ref z) (.ref he.objs.size) >>= _) _ _ _
  refine wpAny_bind ?_
  unfold Builtin.SmallTypes.ownedTupleHandOut
  have zf : IsZip (he.push { cls := .type "tuple", data := .seq #[x, y] }) z TI TO .ellipsis := Heap.get?_push_of_some _ ze
  refine wpAny_bind (wpAny_setField_rec zf (by simp) fun hg zg sg => ?_)
  replace zg : IsZip hg z TI TO (rawInt he.objs.size) := zg
  refine wpAny_setField_rec zg (by simp) fun hn zn sn => ?_
  replace zn : IsZip hn z TI TO (rawInt he.objs.size) := zn
  have up : ∀ c o, c ≠ z → he.get? c = some o → hn.get? c = some o := fun c o c1 e => sn.extBut _ _ c1 (sg.extBut _ _ c1 (Heap.get?_push_of_some _ e))
  have Tn : IsPair hn he.objs.size x y := sn.extBut _ _ (Nat.ne_of_gt zlt) (sg.extBut _ _ (Nat.ne_of_gt zlt) (Heap.get?_push_size _ rfl))
  rw [size] at zn Tn
  refine wpAny_pure ⟨_, rfl, ?_⟩
  show Q (.ref he.objs.size) _
  rw [size]
  exact hQ hn zn (up _ _ D.TOz TOe) (ie.at fun o e => up _ o D.i1z e) (je.at fun o e => up _ o D.i2z e) Tn fun c o c1 c2 c3 c4 e => up c o c1 (kept c o c1 c2 c3 c4 e)
theorem zmix_end {Q : PySem.Fin → Shared → Prop} (hh : A.handled = none) (D : ZipApart z TI TO i1 i2 l1 l2) (Z : ZAt s.heap z TI TO i1 i2 l1 l2 k) (hl1 : s.heap.IsList l1 xs) (hl2 : s.heap.IsTuple l2 ys) (over : xs[k]? = none ∨ ys[k]? = none)
    (hE : ∀ h' e, Others z TO i1 i2 s.heap h' → (∃ o, h'.get? e = some o ∧ o.cls = .type "StopIteration") → E (.ref e) { s with heap := h' }) : wpAny (model prog w) A (Builtin.«zip.__next__» ⟨[.ref z], []⟩) Q E s := by
  obtain ⟨hz, hTI, ⟨a, b, hTO⟩, h1, h2⟩ := Z
  show wpAny _ _ (field (.ref z) 2 >>= _) _ _ _
  refine wpAny_bind (wpAny_field hz rfl (x := .bool false) rfl ?_)
  show wpAny _ _ (field (.ref z) 3 >>= _) _ _ _
  refine wpAny_bind (wpAny_field hz rfl (x := .ref TI) rfl (wpAny_bind (wpAny_seqItems hTI rfl ?_)))
  show wpAny _ _ (Builtin.SmallTypes.ownedTupleIsFree (.ref z) >>= _) _ _ _
  refine wpAny_bind ?_
  unfold Builtin.SmallTypes.ownedTupleIsFree
  refine wpAny_bind (wpAny_field hz rfl (x := .none) rfl (wpAny_pure ?_))
  simp only [if_true]
  refine wpAny_bind (wpAny_rule (wpAny_bind (wpAny_field hz rfl (x := .ref TO) rfl ?_)))
  refine wpAny_bind (wpAny_setField_rec hz (by simp) fun ha za sa => ?_)
  replace za : IsZip ha z TI TO .ellipsis := za
  refine wpAny_bind ?_
  simp only [List.zipIdx_cons, List.zipIdx_nil, List.forIn_cons, List.forIn_nil]
  refine wpAny_bind (wpAny_bind (wpAny_onRaise ?_))
  show wpAny _ _ (Builtin.SmallTypes.nextOf (.ref i1) >>= _) _ _ _
  -- an error is not the zip, whose class is another
  have apart : ∀ {h : Heap} {e : Addr} {v : Value}, IsZip h z TI TO v → (∃ o, h.get? e = some o ∧ o.cls = .type "StopIteration") → e ≠ z := fun {h e v} zz he q => by
    obtain ⟨o, ho, hc⟩ := he
    rw [q, zz] at ho
    cases ho
    simp at hc
  cases hx : xs[k]? with
  | none =>
    refine wpAny_bind (wpAny_nextOf_list_end hh (h1.extBut sa.extBut D.i1z) (hl1.extBut sa.extBut D.l1z) hx fun hb e sb he => ?_)
    have zb : IsZip hb z TI TO .ellipsis := sb _ _ D.i1z.symm za
    have ne := apart zb he
    obtain ⟨oe, hoe, hce⟩ := he
    exact wpAny_setField_rec zb (by simp) fun hc _ sc => hE hc e (fun c o c1 _ c3 _ q => sc.extBut _ _ c1 (sb _ _ c3 (sa.extBut _ _ c1 q))) ⟨oe, sc.extBut _ _ ne hoe, hce⟩
  | some x =>
    have hy : ys[k]? = none := over.elim (fun q => by rw [hx] at q; cases q) fun q => q
    refine wpAny_bind (wpAny_nextOf_list_item (h1.extBut sa.extBut D.i1z) (hl1.extBut sa.extBut D.l1z) hx fun hb ib sb => wpAny_pure ?_)
    have TOb : IsPair hb TO a b := sb.extBut _ _ D.TOi1 (sa.extBut _ _ D.TOz hTO)
    refine wpAny_bind (wpAny_seqItems TOb rfl (wpAny_bind (wpAny_updateSeq_pair TOb fun hc TOc sc => ?_)))
    refine wpAny_bind (wpAny_letGo (wpAny_pure ?_))
    refine wpAny_bind (wpAny_bind (wpAny_onRaise ?_))
    show wpAny _ _ (Builtin.SmallTypes.nextOf (.ref i2) >>= _) _ _ _
    have i2c := ((h2.extBut sa.extBut D.i2z).extBut sb.extBut D.i12.symm).extBut sc.extBut D.TOi2.symm
    have l2c := ((hl2.extBut sa.extBut D.l2z).extBut sb.extBut D.l2i1).extBut sc.extBut D.l2TO
    refine wpAny_bind (nextOf_tuple_end hh i2c l2c hy fun hd e sd he => ?_)
    have zd : IsZip hd z TI TO .ellipsis := sd _ _ D.i2z.symm (sc.extBut _ _ D.TOz.symm (sb.extBut _ _ D.i1z.symm za))
    have ne := apart zd he
    obtain ⟨oe, hoe, hce⟩ := he
    exact wpAny_setField_rec zd (by simp) fun hf _ sf => hE hf e (fun c o c1 c2 c3 c4 q => sf.extBut _ _ c1 (sd _ _ c4 (sc.extBut _ _ c2 (sb.extBut _ _ c3 (sa.extBut _ _ c1 q))))) ⟨oe, sf.extBut _ _ ne hoe, hce⟩
theorem zmix_next {x y : Value} {Q : Option Value → Shared → Prop} (D : ZipApart z TI TO i1 i2 l1 l2) (Z : ZAt s.heap z TI TO i1 i2 l1 l2 k) (hl1 : s.heap.IsList l1 xs) (hl2 : s.heap.IsTuple l2 ys) (hx : xs[k]? = some x) (hy : ys[k]? = some y)
    (hQ : ∀ h', IsZip h' z TI TO (rawInt s.heap.objs.size) → IsPair h' TO x y → h'.IsListIter i1 l1 (k + 1) → h'.IsTupleIter i2 l2 (k + 1) → IsPair h' s.heap.objs.size x y → Others z TO i1 i2 s.heap h' → Q (some (.ref s.heap.objs.size)) { s with heap := h' }) :
    wpAny (model prog w) A (pyNext (.ref z)) Q E s := by
  have hT : s.TypeIs (.ref z) "zip" := ⟨_, Z.zip, rfl⟩
  unfold pyNext
  refine wpAny_bind (wpAny_attempt (wpAny_callSpecial?_slot (name := Str.ofString "__next__") hT F.slot_zip_next (wpAny_call_entry F.slot_zip_next hT F.entry_zip_next ?_ (F.args_zip_next_1 _))))
  exact zmix_item D Z hl1 hl2 hx hy fun h' a1 a2 a3 a4 a5 a6 => wpAny_pure (hQ h' a1 a2 a3 a4 a5 a6)
theorem zmix_stop {Q : Option Value → Shared → Prop} (hh : A.handled = none) (D : ZipApart z TI TO i1 i2 l1 l2) (Z : ZAt s.heap z TI TO i1 i2 l1 l2 k) (hl1 : s.heap.IsList l1 xs) (hl2 : s.heap.IsTuple l2 ys) (over : xs[k]? = none ∨ ys[k]? = none)
    (hQ : ∀ h', Others z TO i1 i2 s.heap h' → Q none { s with heap := h' }) : wpAny (model prog w) A (pyNext (.ref z)) Q E s := by
  have hT : s.TypeIs (.ref z) "zip" := ⟨_, Z.zip, rfl⟩
  unfold pyNext
  refine wpAny_bind (wpAny_attempt (wpAny_callSpecial?_slot (name := Str.ofString "__next__") hT F.slot_zip_next (wpAny_call_entry F.slot_zip_next hT F.entry_zip_next ?_ (F.args_zip_next_1 _))))
  refine zmix_end hh D Z hl1 hl2 over fun h' e hk he => ?_
  obtain ⟨o, ho, hc⟩ := he
  exact wpAny_bind (wpAny_isInstance (T := "StopIteration") (b := true) ⟨o, ho, hc⟩ isSubtype_stop (wpAny_pure (hQ _ hk)))
end
abbrev zm1 (h : Heap) (l1 : Addr) : Heap := h.push { cls := .type "list_iterator", data := .fields #[.ref l1, .int 0 0] }
abbrev zm2 (h : Heap) (l1 l2 : Addr) : Heap := (zm1 h l1).push { cls := .type "tuple_iterator", data := .fields #[.ref l2, .int 0 0] }
abbrev zm3 (h : Heap) (l1 l2 : Addr) : Heap := (zm2 h l1 l2).push { cls := .type "tuple", data := .seq #[.ref h.objs.size, .ref (zm1 h l1).objs.size] }
abbrev zm4 (h : Heap) (l1 l2 : Addr) : Heap := (zm3 h l1 l2).push { cls := .type "tuple", data := .seq #[.none, .none] }
abbrev zm5 (h : Heap) (l1 l2 : Addr) : Heap := (zm4 h l1 l2).push { cls := .type "zip", data := .fields #[.none, .bool false, .bool false, .ref (zm2 h l1 l2).objs.size, .ref (zm3 h l1 l2).objs.size] }
theorem zmix_meets (l1 l2 : Addr) (xs ys : Array Value) :
    Meets (Builtin.«zip.__new__» ⟨[.type "zip", .ref l1, .ref l2], []⟩) (fun _ R s => s.heap.IsList l1 xs ∧ s.heap.IsTuple l2 ys ∧ R (.ok (.ret (.ref (zm4 s.heap l1 l2).objs.size))) { s with heap := zm5 s.heap l1 l2 }) :=
  .of_wp fun prog w A R s h => by
    obtain ⟨hp, g, d, tk, os⟩ := s
    obtain ⟨hl1, hl2, h⟩ := h
    have hsub := sub_zip
    have hL1 : Heap.IsList (Shared.heap ⟨hp, g, d, tk, os⟩) l1 xs := hl1
    have hL2 : Heap.IsTuple (Shared.heap ⟨hp.push { cls := .type "list_iterator", data := .fields #[.ref l1, .int 0 0] }, g, d, tk, os⟩) l2 ys := Heap.IsTuple.push hl2 _
    wp_walk using wpAny_pyIter_list hL1, wpAny_pyIter_tuple hL2
    exact ⟨_, rfl, h⟩
section
variable {prog : Program} {w : World} {A : Around} {E : Value → Shared → Prop} {s : Shared}
theorem zmix_call {l1 l2 : Addr} {xs ys : Array Value} {Q : Value → Shared → Prop} (hl1 : s.heap.IsList l1 xs) (hl2 : s.heap.IsTuple l2 ys)
    (h : ∀ h', ZAt h' (s.heap.objs.size + 4) (s.heap.objs.size + 2) (s.heap.objs.size + 3) s.heap.objs.size (s.heap.objs.size + 1) l1 l2 0 → (∀ c o, s.heap.get? c = some o → h'.get? c = some o) → Q (.ref (s.heap.objs.size + 4)) { s with heap := h' }) :
    wpAny (model prog w) A (call (.type "zip") [.ref l1, .ref l2]) Q E s := by
  refine callType_new F.called_zip (by decide) (F.typeCall_zip_2 _ _) (F.newCall_zip_2 _ _) (fun obj => F.args_object_init_3 obj _ _) F.entry_zip_new (zmix_meets l1 l2 xs ys) ⟨hl1, hl2, ?_⟩
  have n1 : (zm1 s.heap l1).objs.size = s.heap.objs.size + 1 := Heap.size_push ..
  have n2 : (zm2 s.heap l1 l2).objs.size = s.heap.objs.size + 2 := by rw [Heap.size_push, n1]
  have n3 : (zm3 s.heap l1 l2).objs.size = s.heap.objs.size + 3 := by rw [Heap.size_push, n2]
  have n4 : (zm4 s.heap l1 l2).objs.size = s.heap.objs.size + 4 := by rw [Heap.size_push, n3]
  have g5 : (zm5 s.heap l1 l2).get? (zm4 s.heap l1 l2).objs.size = some _ := Heap.get?_push_size _ rfl
  have g4 : (zm5 s.heap l1 l2).get? (zm3 s.heap l1 l2).objs.size = some _ := Heap.get?_push_of_some _ (Heap.get?_push_size _ rfl)
  have g3 : (zm5 s.heap l1 l2).get? (zm2 s.heap l1 l2).objs.size = some _ := Heap.get?_push_of_some _ (Heap.get?_push_of_some _ (Heap.get?_push_size _ rfl))
  have g2 : (zm5 s.heap l1 l2).get? (zm1 s.heap l1).objs.size = some _ := Heap.get?_push_of_some _ (Heap.get?_push_of_some _ (Heap.get?_push_of_some _ (Heap.get?_push_size _ rfl)))
  have g1 : (zm5 s.heap l1 l2).get? s.heap.objs.size = some _ := Heap.get?_push_of_some _ (Heap.get?_push_of_some _ (Heap.get?_push_of_some _ (Heap.get?_push_of_some _ (Heap.get?_push_size _ rfl))))
  show _ ∧ _
  rw [n2, n3, n4] at g5
  rw [n1, n2] at g3
  rw [n3] at g4
  rw [n1] at g2
  rw [n4]
  exact ⟨⟨_, g5, rfl⟩, h _ ⟨g5, g3, ⟨_, _, g4⟩, ⟨_, g1, rfl, rfl⟩, ⟨_, g2, rfl, rfl⟩⟩ fun c o q => Heap.get?_push_of_some _ (Heap.get?_push_of_some _ (Heap.get?_push_of_some _ (Heap.get?_push_of_some _ (Heap.get?_push_of_some _ q))))⟩
end
/-- what the walk gives: a new pair of the list's item and the tuple's at each turn -/
def ItzM (K : PySem.W.Frag) (a b : Addr) : It :=
  ⟨fun i H => ∃ (xs ys : List V) (x y : V), SqL K H a xs ∧ SqT K H b ys ∧ xs[i]? = some x ∧ ys[i]? = some y,
    fun i H v H' => ∃ T x y, v = .ref T ∧ H T = none ∧ H' = upd H T (.tup [x, y]) ∧ (∀ xs, SqL K H a xs → xs[i]? = some x) ∧ ∀ ys, SqT K H b ys → ys[i]? = some y,
    fun i H => ∃ xs ys : List V, SqL K H a xs ∧ SqT K H b ys ∧ (xs.length ≤ i ∨ ys.length ≤ i)⟩
theorem turn_zmix {P : Program} {w : World} {K : PySem.W.Frag} {elts : List Expr} {kk : Nat} {tpos : Pos} {a b z TI TO i1 i2 : Addr} (D : ZipApart z TI TO i1 i2 a b) :
    Turn P w K (.Tuple elts kk tpos) (ItzM K a b) [z, TI, TO, i1, i2] z (fun i h => ZAt h z TI TO i1 i2 a b i) where
  mem := List.mem_cons_self
  obj := fun i h Z c hc => by
    obtain ⟨hz, hTI, ⟨x, y, hTO⟩, ⟨o1, e1, _, d1⟩, ⟨o2, e2, _, d2⟩⟩ := Z
    have five : c = z ∨ c = TI ∨ c = TO ∨ c = i1 ∨ c = i2 := by simpa using hc
    rcases five with q | q | q | q | q
    · rw [q]; exact ⟨_, hz, fun v n => nomatch n⟩
    · rw [q]; exact ⟨_, hTI, fun v n => nomatch n⟩
    · rw [q]; exact ⟨_, hTO, fun v n => nomatch n⟩
    · rw [q]; exact ⟨o1, e1, fun v n => by rw [d1] at n; cases n⟩
    · rw [q]; exact ⟨o2, e2, fun v n => by rw [d2] at n; cases n⟩
  keep := fun i h h' Z k => by
    obtain ⟨hz, hTI, ⟨x, y, hTO⟩, h1, h2⟩ := Z
    exact ⟨k z (by simp) _ hz, k TI (by simp) _ hTI, ⟨x, y, k TO (by simp) _ hTO⟩, h1.at fun o q => k i1 (by simp) o q, h2.at fun o q => k i2 (by simp) o q⟩
  item := by
    intro X hP hw hK hc i pins s σ H E I hf Z hg
    subst hP hw hK
    obtain ⟨xs, ys, x, y, qx, qy, hx, hy⟩ := hg
    obtain ⟨us, ru, pu, _⟩ := I.list qx
    obtain ⟨vs, rv, pv, _⟩ := I.tuple qy
    obtain ⟨u, hu, r1⟩ := ru.get hx
    obtain ⟨v, hv, r2⟩ := rv.get hy
    have zlt : z < s.heap.objs.size := Heap.lt_size Z.zip
    refine zmix_next D Z pu.isList (show s.heap.IsTuple b vs.toArray from pv) (x := u) (y := v) (by simpa using hu) (by simpa using hv) fun h1 z1 TO1 a1 b1 T1 hk => ⟨_, rfl, ?_⟩
    refine wpAny_letOwnedTupleGo_zip (s := { s with heap := h1 }) z1 fun h2 z2 sb => ?_
    have T2 : h2.get? s.heap.objs.size = some { cls := .type "tuple", data := .seq #[u, v] } := (sb.2 _ (Nat.ne_of_gt zlt)).trans T1
    have new : ObjOk X.prog X.w (upd H s.heap.objs.size (.tup [x, y])) h2 s.heap.objs.size (.tup [x, y]) := ⟨by show 2 ≤ sizeLine; decide, [u, v], .cons r1 (.cons r2 .nil), ⟨_, T2, rfl, _, rfl⟩⟩
    have I2 : Inv X pins σ (upd H s.heap.objs.size (.tup [x, y])) { s with heap := h2 } := I.turnedNew (t' := s.toks) (ch := [z, TI, TO, i1, i2])
      (fun c o hb q => (sb.2 c fun e => hb (by simp [e])).trans (hk c o (fun e => hb (by simp [e])) (fun e => hb (by simp [e])) (fun e => hb (by simp [e])) (fun e => hb (by simp [e])) q)) hf (Nat.le_refl _) new
    refine ⟨.ref s.heap.objs.size, _, I2, rfl, ⟨_, x, y, rfl, I.hok.fresh (Nat.le_refl _), rfl, fun l hl => by rw [I.list_inj hl qx]; exact hx, fun l hl => by rw [I.tuple_inj hl qy]; exact hy⟩, ⟨z2, ?_, ⟨u, v, ?_⟩, ?_, ?_⟩, fun c hcm => ?_⟩
    · exact (sb.2 _ D.TIz).trans (hk _ _ D.TIz D.TITO D.TIi1 D.TIi2 Z.ins)
    · exact (sb.2 _ D.TOz).trans TO1
    · exact a1.at fun o q => (sb.2 _ D.i1z).trans q
    · exact b1.at fun o q => (sb.2 _ D.i2z).trans q
    · have old : c < s.heap.objs.size := by
        obtain ⟨hz, hTI, ⟨_, _, hTO⟩, ⟨_, e1, _⟩, ⟨_, e2, _⟩⟩ := Z
        have five : c = z ∨ c = TI ∨ c = TO ∨ c = i1 ∨ c = i2 := by simpa using hcm
        rcases five with q | q | q | q | q
        · rw [q]; exact zlt
        · rw [q]; exact Heap.lt_size hTI
        · rw [q]; exact Heap.lt_size hTO
        · rw [q]; exact Heap.lt_size e1
        · rw [q]; exact Heap.lt_size e2
      rw [upd_ne (Nat.ne_of_lt old)]
      exact (hf c hcm).1
  done := by
    intro X hP hw hK hc i pins s σ H E I hf Z hg
    subst hP hw hK
    obtain ⟨xs, ys, qx, qy, over⟩ := hg
    obtain ⟨us, ru, pu, _⟩ := I.list qx
    obtain ⟨vs, rv, pv, _⟩ := I.tuple qy
    have n1 := ru.length
    have n2 := rv.length
    refine zmix_stop (I.ok.hd hc) D Z pu.isList (show s.heap.IsTuple b vs.toArray from pv) (over.elim (fun q => .inl (by simp; omega)) fun q => .inr (by simp; omega)) fun h' hk => ⟨rfl, ?_⟩
    exact I.turnedL (t' := s.toks) (ch := [z, TI, TO, i1, i2]) (fun c o hb q => hk c o (fun e => hb (by simp [e])) (fun e => hb (by simp [e])) (fun e => hb (by simp [e])) (fun e => hb (by simp [e])) q) hf
  self := fun A i s Q E Z h => wpAny_pyIter_zip Z.zip h
def iZipM (K : PySem.W.Frag) (ta : TA) : TI := fun σ H R => ta σ H fun vs H1 => ∃ a b xs ys, vs = [.ref a, .ref b] ∧ SqL K H1 a xs ∧ SqT K H1 b ys ∧ R (ItzM K a b) H1
theorem pi_zipM {X : Cx} {e e2 : Expr} {ta : TA} {p pos tpos : Pos} {elts : List Expr} {kk : Nat} (hg : Gl X "zip") (hm : X.mg "zip" = none) (ha : PA X [e, e2] ta)
    (hs : starEach [e, e2] X.env = (false, eval e X.env) :: starEach [e2] X.env := by rfl) (hpl : (backTo pos (starEach [e2] X.env)).any (·.1) = false := by rfl) :
    PI X (.Tuple elts kk tpos) (.Call (.Name "zip" p) [e, e2] [] pos) (iZipM X.K ta) := by
  refine ⟨fun pins s σ H R I h => ?_⟩
  refine Call_ (ld_blt I hg hm PyProof.Rows.boot_zip (PyProof.Rows.callWith_type1 (thn (ha.run pos pins s σ H _ I h) fun us s1 ⟨vs, H1, I1, r1, q1⟩ => ?_) hs hpl))
  obtain ⟨a, b, xs, ys, ex, qx, qy, q⟩ := q1
  subst ex
  cases r1 with
  | cons r rr =>
    cases rr with
    | cons r' rr =>
      cases rr
      cases r
      cases r'
      obtain ⟨us, ru, pu, _⟩ := I1.list qx
      obtain ⟨vs, rv, pv, _⟩ := I1.tuple qy
      have tv : s1.heap.IsTuple b vs.toArray := pv
      obtain ⟨o2, ho2, _⟩ := id pv
      refine zmix_call pu.isList tv fun h' Z hk => wpAny_pyIter_zip Z.zip ?_
      refine ⟨s1.heap.objs.size + 4, [s1.heap.objs.size + 4, s1.heap.objs.size + 2, s1.heap.objs.size + 3, s1.heap.objs.size, s1.heap.objs.size + 1], _, _, H1, rfl, I1.kept (t' := s1.toks) hk, turn_zmix (PySem.W.ktu_apart s1.heap.objs.size a b pu.lt (Heap.lt_size ho2)), Z, fun c hcm => ?_, q⟩
      have young : s1.heap.objs.size ≤ c := by
        have five : c = s1.heap.objs.size + 4 ∨ c = s1.heap.objs.size + 2 ∨ c = s1.heap.objs.size + 3 ∨ c = s1.heap.objs.size ∨ c = s1.heap.objs.size + 1 := by simpa using hcm
        rcases five with q | q | q | q | q <;> rw [q] <;> first | exact Nat.le_add_right _ _ | exact Nat.le_refl _
      exact I1.fpOk young (I1.hok.fresh young)
theorem walk_zipM {K : PySem.W.Frag} {a b : Addr} {xs ys : List V} {n : Nat} (h1 : xs.length = n) (h2 : ys.length = n) : Walk (ItzM K a b) n (fun H => SqL K H a xs ∧ SqT K H b ys) (YPair (fun i => xs[i]?) (fun i => ys[i]?)) := by
  refine ⟨fun i H hi q => ?_, fun H q => ⟨xs, ys, q.1, q.2, .inl (Nat.le_of_eq h1)⟩, fun i H v H' _ q y => ?_⟩
  · have k1 : i < xs.length := by omega
    have k2 : i < ys.length := by omega
    exact ⟨xs, ys, xs[i], ys[i], q.1, q.2, List.getElem?_eq_getElem k1, List.getElem?_eq_getElem k2⟩
  · obtain ⟨T, x, y, e1, e2, e3, e4, e5⟩ := y
    exact ⟨T, x, y, e1, e2, e3, e4 xs q.1, e5 ys q.2⟩
theorem walk_zipT {K : PySem.W.Frag} {a b : Addr} {xs ys : List V} {n : Nat} (h1 : xs.length = n) (h2 : ys.length = n) : Walk (ItzT K a b) n (fun H => SqT K H a xs ∧ SqT K H b ys) (YPair (fun i => xs[i]?) (fun i => ys[i]?)) := by
  refine ⟨fun i H hi q => ?_, fun H q => ⟨xs, ys, q.1, q.2, .inl (Nat.le_of_eq h1)⟩, fun i H v H' _ q y => ?_⟩
  · have k1 : i < xs.length := by omega
    have k2 : i < ys.length := by omega
    exact ⟨xs, ys, xs[i], ys[i], q.1, q.2, List.getElem?_eq_getElem k1, List.getElem?_eq_getElem k2⟩
  · obtain ⟨T, x, y, e1, e2, e3, e4, e5⟩ := y
    exact ⟨T, x, y, e1, e2, e3, e4 xs q.1, e5 ys q.2⟩
end N22
set_option Elab.async false
set_option linter.all false
set_option maxRecDepth 100000
set_option maxHeartbeats 4000000
/-! set(t), t a tuple of tuples of ints. -/
namespace N22
open PySem PySem.Spec PyProof.Rows L2
section
variable {P : Program} {w : World} {A : Around} {E : Value → Shared → Prop} {s : Shared}
/-- an empty set as set.__new__ lays it -/
abbrev bareSet (w : World) : Obj := { cls := .type "set", dict := none, data := .set #[] 0 (.fresh 0 0 (!w.params.followText "set-order")) }
theorem set_of_tuple {l : Addr} {items : Array Value} (ks : List (Addr × List Int)) {Q : Value → Shared → Prop} (hh : A.handled = none) (hl : s.heap.IsTuple l items) (hit : items.toList = ks.map fun p => Value.ref p.1)
    (hk : ∀ p ∈ ks, IsT P w s.heap p.2 p.1) (hfew : ks.length < 64) (hu : A.units + 3 < cLine)
    (h : ∀ (h' : Heap) (tk : Nat) L es ep t, SetTR P w h' s.heap.objs.size L es ep t → Got ks ks.length L → (∀ b o, s.heap.get? b = some o → h'.get? b = some o) → Q (.ref s.heap.objs.size) { s with heap := h', toks := tk }) :
    wpAny (model P w) A (call (.type "set") [.ref l]) Q E s := by
  have count : items.size = ks.length := by
    have q := congrArg List.length hit
    rw [Array.length_toList, List.length_map] at q
    exact q
  obtain ⟨c, tl, hmro⟩ := F.called_set.mro
  have hmade := F.called_set.made
  have hsub := F.called_set.sub
  refine wpAny_call (codeAny_of_tree ?_)
  show wpAny _ _ (callAny (.type "set") _) _ _ _
  refine wpAny_pure ⟨Code.quiet_builtin _ (by decide +kernel), codeAny_builtin F.entry_type_call ?_⟩
  rw [Around.under_plain (weight_type_call_type "set" [.ref l] []) rfl]
  have h1 := F.called_set.notType
  have h2 := F.called_set.canCreate
  have hct := F.typeCall_set_1 (.ref l)
  repeat (any_goals (first | assumption | wp_step))
  refine codeAny_mono (code_set_led1 (.ref l) (E := E) (Q₁ := fun obj s₁ => obj = .ref s.heap.objs.size ∧ s₁ = { s with heap := s.heap.push (bareSet w) }) ⟨rfl, rfl⟩) fun r s₁ hr => ?_
  cases r with
  | error e => exact hr
  | ok fl =>
    cases fl with
    | next => exact hr.elim
    | brk => exact hr.elim
    | cont => exact hr.elim
    | ret obj =>
      obtain ⟨e1, e2⟩ := hr
      subst e1 e2
      have hS : (s.heap.push (bareSet w)).get? s.heap.objs.size = some (bareSet w) := Heap.get?_push_size _ rfl
      have hT : Shared.TypeIs { s with heap := s.heap.push (bareSet w) } (.ref s.heap.objs.size) "set" := ⟨_, hS, rfl⟩
      have hli := F.called_set.init.lookup
      have hbi := F.called_set.init.bind (.ref s.heap.objs.size)
      repeat (any_goals (first | assumption | wp_step))
      refine codeAny_mono (codeAny_call_builtin (R := wants (fun r s₂ => r = .none ∧ ∃ h' tk L es ep t, s₂ = { s with heap := h', toks := tk } ∧ SetTR P w h' s.heap.objs.size L es ep t ∧ Got ks ks.length L ∧ (∀ b o, s.heap.get? b = some o → h'.get? b = some o)) E)
        F.called_set.init.plain F.entry_set_init (check_set_init_1 hT ?_)) fun r₂ s₂ hr₂ => ?_
      · obtain ⟨ol, hol, hcl, nl, hdl⟩ := hl
        obtain ⟨ocls, odict, odata, oslots⟩ := ol
        simp only at hcl hdl
        subst hcl hdl
        have hol' : (s.heap.push (bareSet w)).get? l = some { cls := .type "tuple", dict := odict, data := .seq items nl, slots := oslots } := Heap.get?_push_of_some _ hol
        have hsls := F.sub_tuple_set
        have hslf := F.sub_tuple_frozenset
        have hne : (Value.type "tuple" == Value.type "dict") = false := by decide
        have hl1 : (s.heap.push (bareSet w)).IsTuple l items := ⟨_, hol', rfl, nl, rfl⟩
        unfold Builtin.«set.__init__» noKeywords Builtin.Frozenset.updateFrom
        generalize hPI : pyIter = PI
        wp_walk
        subst hPI
        refine wpAny_pyIter_tuple hl1 ?_
        refine wpAny_bind (wpAny_runValue ?_)
        have hlS : l < s.heap.objs.size := Heap.lt_size hol
        have hz1 : (s.heap.push (bareSet w)).objs.size = s.heap.objs.size + 1 := Heap.size_push ..
        have hh3 : A.in1.in1.in1.handled = none := by simp [hh]
        have hneI : l ≠ (s.heap.push (bareSet w)).objs.size := by rw [hz1]; exact Nat.ne_of_lt (Nat.lt_succ_of_lt hlS)
        have hSf : s.heap.objs.size ∉ [(s.heap.push (bareSet w)).objs.size, l] := by
          rw [hz1]
          simp only [List.mem_cons, List.not_mem_nil, or_false, not_or]
          exact ⟨Nat.ne_of_lt (Nat.lt_succ_self _), Nat.ne_of_gt hlS⟩
        have hval : ∀ (i : Nat) (v : Value), items[i]? = some v → ∃ p, ks[i]? = some p ∧ v = .ref p.1 := fun i v hv => by
          rw [← Array.getElem?_toList, hit, List.getElem?_map] at hv
          obtain ⟨p, hp, e⟩ := Option.map_eq_some_iff.mp hv
          exact ⟨p, hp, e.symm⟩
        have none_of : ∀ b, s.heap.objs.size ≤ b → s.heap.get? b = none := fun b hb => by
          cases q : s.heap.get? b with
          | none => rfl
          | some o => exact absurd (Nat.lt_of_lt_of_le (Heap.lt_size q) hb) (Nat.lt_irrefl _)
        refine set_update_tups ((Walks.tuple hh3 _ l hneI items).toS) s.heap.objs.size hSf ks count hfew hval s.heap hk (none_of _ (Nat.le_refl _)) (fun b hb => none_of b (by
            rw [List.mem_singleton.mp hb, hz1]
            exact Nat.le_succ _)) hu (items.size - 0) 0 _ (by omega) (Nat.zero_le _)
          ⟨⟨_, Heap.get?_push_size _ rfl, rfl, rfl⟩, (hl1.push _)⟩ (fun b o e => Heap.get?_push_of_some _ (Heap.get?_push_of_some _ e)) ?hS0 ?hR
        case hS0 => exact ⟨[], #[], 0, _, setTR_fresh (Heap.get?_push_of_some _ hS), Got.zero ks⟩
        case hR =>
          intro s' L es ep t hm hS' g' hkp
          obtain ⟨h', g2, d', tk', os'⟩ := s'
          have eg : g2 = s.gens := hm.gens
          have ed : d' = s.drawn := hm.drawn
          have eo : os' = s.os := hm.os
          subst eg ed eo
          rw [count] at g'
          show wpAny _ _ _ _ _ _
          refine wpAny_pure ?_
          show wpAny _ _ (ret Value.none) _ _ _
          exact wpAny_pure ⟨rfl, h', tk', L, es, ep, t, rfl, hS', g', hkp⟩
      · cases r₂ with
        | error e => exact hr₂
        | ok fl₂ =>
          cases fl₂ with
          | ret r =>
            obtain ⟨e3, h', tk, L, es, ep, t, e4, hS', g', hk'⟩ := hr₂
            subst e3 e4
            repeat (any_goals (first | assumption | wp_step))
            exact h _ _ _ _ _ _ hS' g' hk'
          | next => exact hr₂.elim
          | brk => exact hr₂.elim
          | cont => exact hr₂.elim
end
section
variable {X : Cx}
/-- set(t), t a tuple of tuples of ints -/
def rSetTT (K : PySem.W.Frag) (P : Program) (w : World) : List V → Hp → VK → Prop := fun xs H Q => ∃ (l : Addr) (ks : List (Addr × List Int)), xs = [V.ref l] ∧ SqT K H l (ks.map fun p => V.ref p.1) ∧ (∀ p ∈ ks, SqT K H p.1 (p.2.map V.int)) ∧ ks.length < 64 ∧
  ∀ a L, H a = none → (∀ p ∈ L, p ∈ ks) → (∀ p ∈ ks, p.2 ∈ L.map (·.2)) → Q (.ref a) (upd H a (SetTO P w a L))
theorem cr_setTT (hc : X.calm = true) (hu : X.A.units + 64 < cLine) : CallR X (.type "set") (rSetTT X.K X.prog X.w) := by
  intro pins s σ H xs us Q I r h
  obtain ⟨l, ks, e0, hl, hk, hf, q⟩ := h
  subst e0
  rw [Vals.ref1 r]
  obtain ⟨its, rv, pt, hz⟩ := I.tuple hl
  have hn : H s.heap.objs.size = none := I.hok.fresh (Nat.le_refl _)
  refine set_of_tuple (P := X.prog) (w := X.w) ks (I.ok.hd hc) (show s.heap.IsTuple l its.toArray from pt) (by simpa using refs_of_vals rv) (fun p hp => I.isT (hk p hp)) hf (by omega) fun h' tk L es ep t R g k => ?_
  refine ⟨.ref s.heap.objs.size, _, I.laid (t' := tk) k (Nat.le_refl _) (setTO_new R.t0), rfl, q _ L hn (fun p hp => List.mem_of_mem_take (g.sub p hp)) fun p hp => g.all p ?_⟩
  rw [List.take_length]
  exact hp
end
end N22
set_option Elab.async false
set_option linter.all false
/-! The join, as the program makes it: dicts from columns to values, longer part by part. -/
namespace N22
open PySem L2
abbrev Mp := List (Key × V)
def okM (m : Mp) (part r : List Int) : Bool := (part.zip r).all fun q => decide ((valV m (.inl q.1)).getD (.int q.2) = .int q.2)
def putM (m : Mp) (qs : List (Int × Int)) : Mp := qs.foldl (fun m q => putK m (.inl q.1) (.int q.2)) m
def extM (ms : List Mp) (rows : List (List Int)) (part : List Int) : List Mp := ms.flatMap fun m => (rows.filter fun r => okM m part r).map fun r => putM m (part.zip r)
def joinM (qs : List (List (List Int) × List Int)) (ms : List Mp) : List Mp := qs.foldl (fun ms q => extM ms q.1 q.2) ms
def getM (m : Mp) (c : Int) : Int := match valV m (.inl c) with
  | some (.int i) => i
  | _ => 0
def rowM (n : Nat) (m : Mp) : List Int := (List.range n).map fun (c : Nat) => getM m (c : Int)

/-- m tells the values g of the columns in dom, and no other -/
def Tells (m : Mp) (dom : List Int) (g : Int → Int) : Prop := ∀ c : Int, valV m (.inl c) = if c ∈ dom then some (.int (g c)) else none
theorem Tells.nil (g : Int → Int) : Tells [] [] g := fun c => rfl
theorem Tells.get {m : Mp} {dom : List Int} {g : Int → Int} (t : Tells m dom g) {c : Int} (h : c ∈ dom) : getM m c = g c := by
  unfold getM
  rw [t c, if_pos h]
theorem extM_length (ms : List Mp) (rows : List (List Int)) (part : List Int) : (extM ms rows part).length ≤ ms.length * rows.length := by
  unfold extM
  induction ms with
  | nil => exact Nat.zero_le _
  | cons m ms ih =>
    rw [List.flatMap_cons, List.length_append, List.length_map, List.length_cons, Nat.add_mul, Nat.one_mul]
    have h := List.length_filter_le (fun r => okM m part r) rows
    omega
theorem putM_val (qs : List (Int × Int)) : ∀ (m : Mp) (c : Int), valV (putM m qs) (.inl c) = match (qs.reverse.lookup c) with
    | some x => some (.int x)
    | none => valV m (.inl c) := by
  induction qs with
  | nil => exact fun m c => rfl
  | cons q qs ih =>
    intro m c
    have e : putM m (q :: qs) = putM (putK m (.inl q.1) (.int q.2)) qs := rfl
    rw [e, ih, List.reverse_cons, List.lookup_append]
    cases h : List.lookup c qs.reverse with
    | some x => rfl
    | none =>
      obtain ⟨c', x⟩ := q
      rw [Option.none_or]
      show valV (putK m (.inl c') (.int x)) (.inl c) = _
      rw [valV_put, List.lookup_cons]
      by_cases z : c = c'
      · subst z
        rw [if_pos rfl, beq_self_eq_true]
      · have z2 : ¬ (Sum.inl c : Key) = Sum.inl c' := fun y => z (Sum.inl.inj y)
        rw [if_neg z2, beq_eq_false_iff_ne.mpr z]
        rfl
/-- looked up in a zip of different keys -/
theorem zip_lookup {part r : List Int} (g : Int → Int) (hr : part.map g = r) {c : Int} (qs : List (Int × Int)) (hq : ∀ q, q ∈ qs ↔ q ∈ part.zip r) : qs.lookup c = if c ∈ part then some (g c) else none := by
  have all : ∀ q ∈ part.zip r, q.2 = g q.1 ∧ q.1 ∈ part := by
    subst hr
    intro q h
    rw [List.zip_map_right, List.mem_map] at h
    obtain ⟨p, hp, e⟩ := h
    have e1 : p.1 = p.2 := by
      have z := hp
      rw [List.zip_eq_zipWith] at z
      obtain ⟨i, hi, e2⟩ := List.getElem_of_mem hp
      rw [List.getElem_zip] at e2
      rw [← e2]
    rw [← e]
    refine ⟨?_, (List.of_mem_zip hp).1⟩
    show g p.2 = g p.1
    rw [e1]
  by_cases h : c ∈ part
  · rw [if_pos h]
    have there : (c, g c) ∈ qs := by
      rw [hq]
      subst hr
      obtain ⟨i, hi, e⟩ := List.getElem_of_mem h
      have hz : i < (part.zip (part.map g)).length := by
        rw [List.length_zip, List.length_map]
        omega
      have e2 : (part.zip (part.map g))[i] = (c, g c) := by
        rw [List.getElem_zip, List.getElem_map, e]
      rw [← e2]
      exact List.getElem_mem hz
    have good : ∀ q ∈ qs, q.2 = g q.1 := fun q hq2 => (all q ((hq q).mp hq2)).1
    clear hq all
    induction qs with
    | nil => cases there
    | cons q qs ih =>
      obtain ⟨c', x⟩ := q
      rw [List.lookup_cons]
      by_cases z : c = c'
      · subst z
        rw [beq_self_eq_true]
        have e3 : x = g c := good (c, x) List.mem_cons_self
        rw [e3]
      · rw [beq_eq_false_iff_ne.mpr z]
        refine ih ?_ fun q h2 => good q (List.mem_cons_of_mem _ h2)
        rcases List.mem_cons.mp there with y | y
        · exact absurd (congrArg Prod.fst y) z
        · exact y
  · rw [if_neg h]
    have no : ∀ q ∈ qs, q.1 ≠ c := fun q hq2 e => h (by rw [← e]; exact (all q ((hq q).mp hq2)).2)
    clear hq all
    induction qs with
    | nil => rfl
    | cons q qs ih =>
      obtain ⟨c', x⟩ := q
      rw [List.lookup_cons]
      have z : c ≠ c' := fun y => no (c', x) List.mem_cons_self y.symm
      rw [beq_eq_false_iff_ne.mpr z]
      exact ih fun q h2 => no q (List.mem_cons_of_mem _ h2)
/-- a dict grown by a part -/
theorem Tells.put {m : Mp} {dom part r : List Int} {g g' : Int → Int} (t : Tells m dom g) (hr : part.map g' = r) (same : ∀ c ∈ dom, g' c = g c) : Tells (putM m (part.zip r)) (dom ++ part) g' := by
  intro c
  rw [putM_val, zip_lookup g' hr _ (fun q => List.mem_reverse)]
  by_cases h : c ∈ part
  · rw [if_pos h, if_pos (List.mem_append_right _ h)]
  · rw [if_neg h]
    show valV m (.inl c) = _
    rw [t c]
    by_cases k : c ∈ dom
    · rw [if_pos k, if_pos (List.mem_append_left _ k), same c k]
    · rw [if_neg k, if_neg fun z => (List.mem_append.mp z).elim k h]
theorem ok_of {m : Mp} {dom part : List Int} {g : Int → Int} (t : Tells m dom g) : okM m part (part.map g) = true := by
  unfold okM
  rw [List.all_eq_true]
  intro q hq
  obtain ⟨i, hi, e⟩ := List.getElem_of_mem hq
  rw [List.getElem_zip, List.getElem_map] at e
  rw [← e]
  apply decide_eq_true
  show (valV m (.inl _)).getD _ = _
  rw [t _]
  by_cases k : part[i]'(by rw [List.length_zip] at hi; omega) ∈ dom
  · rw [if_pos k]
    rfl
  · rw [if_neg k]
    rfl
theorem lookup_mem {c x : Int} (qs : List (Int × Int)) (e : qs.lookup c = some x) : (c, x) ∈ qs := by
  induction qs with
  | nil => cases e
  | cons q qs ih =>
    obtain ⟨c', y⟩ := q
    rw [List.lookup_cons] at e
    by_cases z : c = c'
    · subst z
      rw [beq_self_eq_true] at e
      rw [Option.some.inj e]
      exact List.mem_cons_self
    · rw [beq_eq_false_iff_ne.mpr z] at e
      exact List.mem_cons_of_mem _ (ih e)
/-- what a row that fits the dict tells -/
theorem of_ok {m : Mp} {dom part r : List Int} {g : Int → Int} (t : Tells m dom g) (nd : part.Nodup) (hl : r.length = part.length) (h : okM m part r = true) : ∃ g' : Int → Int, part.map g' = r ∧ ∀ c ∈ dom, g' c = g c := by
  refine ⟨fun c => match (part.zip r).lookup c with
    | some x => x
    | none => g c, ?_, fun c hc => ?_⟩
  · apply List.ext_getElem (by rw [List.length_map, hl])
    intro i h1 h2
    rw [List.getElem_map]
    have hi : i < part.length := by
      rw [List.length_map] at h1
      exact h1
    have key : (part.zip r).lookup part[i] = some r[i] := by
      clear h t h1
      induction part generalizing r i with
      | nil => exact absurd hi (Nat.not_lt_zero _)
      | cons c part ih =>
        cases r with
        | nil => cases hl
        | cons x r =>
          rw [List.zip_cons_cons, List.lookup_cons]
          obtain ⟨n1, n2⟩ := List.nodup_cons.mp nd
          cases i with
          | zero =>
            show (match c == c with | true => some x | false => _) = some x
            rw [beq_self_eq_true]
          | succ i =>
            have hi2 : i < part.length := Nat.lt_of_succ_lt_succ hi
            have ne : part[i] ≠ c := fun z => n1 (by rw [← z]; exact List.getElem_mem hi2)
            have h3 : i < r.length := Nat.lt_of_succ_lt_succ h2
            show (match part[i] == c with | true => some x | false => List.lookup part[i] (part.zip r)) = some r[i]
            rw [beq_eq_false_iff_ne.mpr ne]
            exact ih n2 (by simpa using hl) i h3 hi2
    rw [key]
  · cases e : (part.zip r).lookup c with
    | none =>
      show (match (part.zip r).lookup c with | some x => x | none => g c) = g c
      rw [e]
    | some x =>
      show (match (part.zip r).lookup c with | some x => x | none => g c) = g c
      rw [e]
      have mem : (c, x) ∈ part.zip r := lookup_mem _ e
      unfold okM at h
      rw [List.all_eq_true] at h
      have z := of_decide_eq_true (h (c, x) mem)
      rw [t c, if_pos hc] at z
      have z2 : V.int (g c) = V.int x := z
      injection z2 with z2
      exact z2.symm
/-- what the parts so far ask of values -/
def Fits (qs : List (List (List Int) × List Int)) (g : Int → Int) : Prop := ∀ q ∈ qs, q.2.map g ∈ q.1
def Dom (qs : List (List (List Int) × List Int)) : List Int := qs.flatMap fun q => q.2
theorem join_all (g : Int → Int) (qs : List (List (List Int) × List Int)) : ∀ (ms : List Mp) (dom : List Int), (∃ m ∈ ms, Tells m dom g) → Fits qs g → ∃ m ∈ joinM qs ms, Tells m (dom ++ Dom qs) g := by
  induction qs with
  | nil =>
    intro ms dom h _
    have e : dom ++ Dom [] = dom := List.append_nil _
    rw [e]
    exact h
  | cons q qs ih =>
    intro ms dom ⟨m, hm, t⟩ f
    have e : dom ++ Dom (q :: qs) = (dom ++ q.2) ++ Dom qs := by
      rw [List.append_assoc]
      rfl
    rw [e]
    refine ih (extM ms q.1 q.2) (dom ++ q.2) ⟨putM m (q.2.zip (q.2.map g)), ?_, t.put rfl fun _ _ => rfl⟩ fun p hp => f p (List.mem_cons_of_mem _ hp)
    exact List.mem_flatMap.mpr ⟨m, hm, List.mem_map.mpr ⟨q.2.map g, List.mem_filter.mpr ⟨f q List.mem_cons_self, ok_of t⟩, rfl⟩⟩
theorem join_only (qs : List (List (List Int) × List Int)) : ∀ (ms : List Mp) (dom : List Int) (done : List (List (List Int) × List Int)), (∀ q ∈ done, ∀ c ∈ q.2, c ∈ dom) → (∀ m ∈ ms, ∃ g, Tells m dom g ∧ Fits done g) →
    (∀ q ∈ qs, q.2.Nodup ∧ ∀ r ∈ q.1, r.length = q.2.length) → ∀ m ∈ joinM qs ms, ∃ g, Tells m (dom ++ Dom qs) g ∧ Fits (done ++ qs) g := by
  induction qs with
  | nil =>
    intro ms dom done _ h _ m hm
    have e : dom ++ Dom [] = dom := List.append_nil _
    rw [e, List.append_nil]
    exact h m hm
  | cons q qs ih =>
    intro ms dom done hd h hq m hm
    have e : dom ++ Dom (q :: qs) = (dom ++ q.2) ++ Dom qs := by
      rw [List.append_assoc]
      rfl
    have e2 : done ++ q :: qs = (done ++ [q]) ++ qs := by
      rw [List.append_assoc]
      rfl
    rw [e, e2]
    refine ih (extM ms q.1 q.2) (dom ++ q.2) (done ++ [q]) (fun p hp c hc => ?_) (fun m2 hm2 => ?_) (fun p hp => hq p (List.mem_cons_of_mem _ hp)) m hm
    · rcases List.mem_append.mp hp with z | z
      · exact List.mem_append_left _ (hd p z c hc)
      · rw [List.mem_singleton.mp z] at hc
        exact List.mem_append_right _ hc
    · obtain ⟨m0, h0, h1⟩ := List.mem_flatMap.mp hm2
      obtain ⟨r, hr, e3⟩ := List.mem_map.mp h1
      obtain ⟨hr1, hr2⟩ := List.mem_filter.mp hr
      obtain ⟨g, t, f⟩ := h m0 h0
      obtain ⟨nd, hlen⟩ := hq q List.mem_cons_self
      obtain ⟨g', e4, same⟩ := of_ok t nd (hlen r hr1) hr2
      rw [← e3]
      refine ⟨g', t.put e4 same, fun p hp => ?_⟩
      rcases List.mem_append.mp hp with z | z
      · have w := f p z
        have e5 : p.2.map g' = p.2.map g := List.map_inj_left.mpr fun c hc => same c (hd p z c hc)
        rw [e5]
        exact w
      · rw [List.mem_singleton.mp z, e4]
        exact hr1
/-- THE JOIN: its rows are those whose picks lie in the projections -/
theorem join_rows {n : Nat} {qs : List (List (List Int) × List Int)} (hw : ∀ q ∈ qs, InW n q.2) (hq : ∀ q ∈ qs, q.2.Nodup ∧ ∀ r ∈ q.1, r.length = q.2.length) (cover : ∀ c : Int, 0 ≤ c → c < (n : Int) → ∃ q ∈ qs, c ∈ q.2) (row : List Int) :
    row ∈ (joinM qs [[]]).map (rowM n) ↔ row.length = n ∧ ∀ q ∈ qs, pick row q.2 ∈ q.1 := by
  have inDom : ∀ c : Int, 0 ≤ c → c < (n : Int) → c ∈ Dom qs := fun c h0 h1 => by
    obtain ⟨q, h, hc⟩ := cover c h0 h1
    exact List.mem_flatMap.mpr ⟨q, h, hc⟩
  constructor
  · intro h
    obtain ⟨m, hm, e⟩ := List.mem_map.mp h
    obtain ⟨g, t, f⟩ := join_only qs [[]] [] [] (fun q h => by cases h) (fun m h => ⟨fun _ => 0, by rw [List.mem_singleton.mp h]; exact Tells.nil _, fun q h => by cases h⟩) hq m hm
    rw [← e]
    refine ⟨by unfold rowM; rw [List.length_map, List.length_range], fun q hqs => ?_⟩
    have z : pick (rowM n m) q.2 = q.2.map g := by
      refine List.map_inj_left.mpr fun c hc => ?_
      obtain ⟨h0, h1⟩ := hw q hqs c hc
      unfold rowM
      rw [at_range h0 h1, Int.toNat_of_nonneg h0]
      exact t.get (inDom c h0 h1)
    rw [z]
    exact f q hqs
  · rintro ⟨hl, hp⟩
    obtain ⟨m, hm, t⟩ := join_all (at_ row) qs [[]] [] ⟨[], List.mem_singleton.mpr rfl, Tells.nil _⟩ hp
    refine List.mem_map.mpr ⟨m, hm, row_ext (n := n) (by unfold rowM; rw [List.length_map, List.length_range]) hl fun c h0 h1 => ?_⟩
    unfold rowM
    rw [at_range h0 h1, Int.toNat_of_nonneg h0]
    exact t.get (inDom c h0 h1)
/-- each dict of the join tells every column -/
theorem join_tells {n : Nat} {qs : List (List (List Int) × List Int)} (hq : ∀ q ∈ qs, q.2.Nodup ∧ ∀ r ∈ q.1, r.length = q.2.length) (cover : ∀ c : Int, 0 ≤ c → c < (n : Int) → ∃ q ∈ qs, c ∈ q.2) {m : Mp} (hm : m ∈ joinM qs [[]]) {c : Int} (h0 : 0 ≤ c) (h1 : c < (n : Int)) :
    valV m (.inl c) = some (.int (getM m c)) := by
  obtain ⟨g, t, f⟩ := join_only qs [[]] [] [] (fun q h => by cases h) (fun m h => ⟨fun _ => 0, by rw [List.mem_singleton.mp h]; exact Tells.nil _, fun q h => by cases h⟩) hq m hm
  obtain ⟨q, h, hc⟩ := cover c h0 h1
  have z : c ∈ [] ++ Dom qs := List.mem_flatMap.mpr ⟨q, h, hc⟩
  rw [t.get z, t c, if_pos z]
end N22
set_option Elab.async false
set_option linter.all false
set_option maxRecDepth 100000
set_option maxHeartbeats 4000000
/-! The text by places; small words about heaps. -/
namespace N22
open PySem PySem.Spec PyProof.Rows L2
def topS (i : Nat) : Stmt := PySem.Challenge.pw_norowstray_k22_whole_many_valued_are_joi.main.body.getD i (.Pass ⟨0, 0, 0, 0⟩)
abbrev sPicked : Stmt := topS 1
abbrev sProjected : Stmt := topS 2
abbrev sExtended : Stmt := topS 3
abbrev sJoined : Stmt := topS 4
abbrev sAgree : Stmt := topS 6
abbrev sDealtRow : Stmt := topS 7
abbrev sSettlesBreach : Stmt := topS 8
abbrev sDealsBreach : Stmt := topS 9
abbrev sJoinsBreach : Stmt := topS 10
abbrev sLeastBreach : Stmt := topS 12
abbrev sKeeps : Stmt := topS 13
abbrev sDraws : Stmt := topS 15
abbrev sTake : Stmt := topS 16
abbrev sCell : Stmt := topS 17
abbrev sColumns : Stmt := topS 20
abbrev sScheme : Stmt := topS 21
abbrev sWide : Stmt := topS 27
abbrev sRows : Stmt := topS 29
abbrev sStore : Stmt := topS 30
abbrev sLAgree : Stmt := topS 33
abbrev sThinned : Stmt := topS 38
abbrev sLaw : Stmt := topS 39
abbrev nPicked : List Str := ["row", "columns", "column"]
abbrev nProjected : List Str := ["rows", "columns", "row"]
abbrev nExtended : List Str := ["found", "rows", "part", "longer", "values", "row", "more", "column", "value"]
abbrev nJoined : List Str := ["width", "projections", "parts", "found", "rows", "part", "values"]
abbrev nAgree : List Str := ["one", "other", "columns"]
abbrev nDealtRow : List Str := ["one", "other", "left", "right", "column"]
abbrev nSettlesBreach : List Str := ["rows", "left", "right", "one", "other"]
abbrev nDealsBreach : List Str := ["rows", "left", "right", "known", "one", "other"]
abbrev nJoinsBreach : List Str := ["width", "rows", "parts", "known", "missing", "chosen", "part", "told", "least", "row"]
abbrev nLeastBreach : List Str := ["scheme", "store", "dependency", "kind", "table", "rows"]
abbrev nKeeps : List Str := ["scheme", "store", "dependency"]
abbrev nDraws : List Str := ["_law_script", "_law_many", "_law_cells", "_law_rest", "_law_draws_here", "_law_k", "_law_at", "_law_once", "_law_cell_here"]
abbrev nTake : List Str := ["_law_draws_here", "_law_many"]
abbrev nCell : List Str := ["_law_script", "_law_draws_here"]
abbrev nColumns : List Str := ["_law_draws_here", "_law_width", "_law_share", "_law_column"]
abbrev nScheme : List Str := ["_law_draws_here", "_law_many", "_law_widths", "_law_table"]
abbrev nWide : List Str := ["_law_draws_here", "_law_cell_here", "_law_many", "_law_base", "_law_k"]
abbrev nRows : List Str := ["_law_draws_here", "_law_width", "_law_most", "_law_wide_here", "_law_rows_here", "_law_k", "_law_column"]
abbrev nStore : List Str := ["_law_draws_here", "_law_scheme_here", "_law_most", "_law_wide_here", "_law_width"]
abbrev nLAgree : List Str := ["_law_one", "_law_other", "_law_columns_here", "_law_column"]
abbrev nThinned : List Str := ["_law_rows_here", "_law_left", "_law_right", "_law_kept", "_law_row", "_law_unlike", "_law_one"]
abbrev nLaw : List Str := ["_law_script", "_law_draws_here", "_law_cell_here", "_law_scheme_here", "_law_store_here", "_law_k", "_law_table", "_law_every", "_law_left", "_law_right", "_law_both", "_law_rest", "_law_less", "_law_far", "_law_alike", "_law_parts_here", "_law_told", "_law_thin", "_law_column", "_law_part", "_law_dependency_here"]
theorem scPicked : FnScope nPicked ["row", "columns"] (defScope sPicked) := ⟨rfl, rfl, rfl, by decide +kernel, rfl, by decide +kernel, by decide +kernel⟩
theorem scProjected : FnScope nProjected ["rows", "columns"] (defScope sProjected) := ⟨rfl, rfl, rfl, by decide +kernel, rfl, by decide +kernel, by decide +kernel⟩
theorem scExtended : FnScope nExtended ["found", "rows", "part"] (defScope sExtended) := ⟨rfl, rfl, rfl, by decide +kernel, rfl, by decide +kernel, by decide +kernel⟩
theorem scJoined : FnScope nJoined ["width", "projections", "parts"] (defScope sJoined) := ⟨rfl, rfl, rfl, by decide +kernel, rfl, by decide +kernel, by decide +kernel⟩
theorem scAgree : FnScope nAgree ["one", "other", "columns"] (defScope sAgree) := ⟨rfl, rfl, rfl, by decide +kernel, rfl, by decide +kernel, by decide +kernel⟩
theorem scDealtRow : FnScope nDealtRow ["one", "other", "left", "right"] (defScope sDealtRow) := ⟨rfl, rfl, rfl, by decide +kernel, rfl, by decide +kernel, by decide +kernel⟩
theorem scSettlesBreach : FnScope nSettlesBreach ["rows", "left", "right"] (defScope sSettlesBreach) := ⟨rfl, rfl, rfl, by decide +kernel, rfl, by decide +kernel, by decide +kernel⟩
theorem scDealsBreach : FnScope nDealsBreach ["rows", "left", "right"] (defScope sDealsBreach) := ⟨rfl, rfl, rfl, by decide +kernel, rfl, by decide +kernel, by decide +kernel⟩
theorem scJoinsBreach : FnScope nJoinsBreach ["width", "rows", "parts"] (defScope sJoinsBreach) := ⟨rfl, rfl, rfl, by decide +kernel, rfl, by decide +kernel, by decide +kernel⟩
theorem scLeastBreach : FnScope nLeastBreach ["scheme", "store", "dependency"] (defScope sLeastBreach) := ⟨rfl, rfl, rfl, by decide +kernel, rfl, by decide +kernel, by decide +kernel⟩
theorem scKeeps : FnScope nKeeps ["scheme", "store", "dependency"] (defScope sKeeps) := ⟨rfl, rfl, rfl, by decide +kernel, rfl, by decide +kernel, by decide +kernel⟩
theorem scDraws : FnScope nDraws ["_law_script", "_law_many"] (defScope sDraws) := ⟨rfl, rfl, rfl, by decide +kernel, rfl, by decide +kernel, by decide +kernel⟩
theorem scTake : FnScope nTake ["_law_draws_here", "_law_many"] (defScope sTake) := ⟨rfl, rfl, rfl, by decide +kernel, rfl, by decide +kernel, by decide +kernel⟩
theorem scCell : FnScope nCell ["_law_script", "_law_draws_here"] (defScope sCell) := ⟨rfl, rfl, rfl, by decide +kernel, rfl, by decide +kernel, by decide +kernel⟩
theorem scColumns : FnScope nColumns ["_law_draws_here", "_law_width"] (defScope sColumns) := ⟨rfl, rfl, rfl, by decide +kernel, rfl, by decide +kernel, by decide +kernel⟩
theorem scScheme : FnScope nScheme ["_law_draws_here"] (defScope sScheme) := ⟨rfl, rfl, rfl, by decide +kernel, rfl, by decide +kernel, by decide +kernel⟩
theorem scWide : FnScope nWide ["_law_draws_here", "_law_cell_here"] (defScope sWide) := ⟨rfl, rfl, rfl, by decide +kernel, rfl, by decide +kernel, by decide +kernel⟩
theorem scRows : FnScope nRows ["_law_draws_here", "_law_width", "_law_most", "_law_wide_here"] (defScope sRows) := ⟨rfl, rfl, rfl, by decide +kernel, rfl, by decide +kernel, by decide +kernel⟩
theorem scStore : FnScope nStore ["_law_draws_here", "_law_scheme_here", "_law_most", "_law_wide_here"] (defScope sStore) := ⟨rfl, rfl, rfl, by decide +kernel, rfl, by decide +kernel, by decide +kernel⟩
theorem scLAgree : FnScope nLAgree ["_law_one", "_law_other", "_law_columns_here"] (defScope sLAgree) := ⟨rfl, rfl, rfl, by decide +kernel, rfl, by decide +kernel, by decide +kernel⟩
theorem scThinned : FnScope nThinned ["_law_rows_here", "_law_left", "_law_right"] (defScope sThinned) := ⟨rfl, rfl, rfl, by decide +kernel, rfl, by decide +kernel, by decide +kernel⟩
theorem scLaw : FnScope nLaw ["_law_script"] (defScope sLaw) := ⟨rfl, rfl, rfl, by decide +kernel, rfl, by decide +kernel, by decide +kernel⟩

/-! ### heaps -/
theorem same_upd {H : Hp} {p : Addr} {o : HO} (h : H p = none) : Same H (upd H p o) := fun b x e => by
  rw [upd_ne (ne_of_none e h)]
  exact e
/-- ints as values -/
abbrev iV (ns : List Int) : List V := ns.map V.int
/-- addresses as values -/
abbrev rV {α : Type} (L : List (Addr × α)) : List V := L.map fun p => V.ref p.1
/-- a tuple of ints -/
abbrev TupAt (H : Hp) (a : Addr) (ns : List Int) : Prop := H a = some (.tup (iV ns))
/-- a table: a tuple of rows -/
structure TabAt (H : Hp) (a : Addr) (L : List (Addr × List Int)) : Prop where
  tab : H a = some (.tup (rV L))
  row : ∀ p ∈ L, TupAt H p.1 p.2
theorem TabAt.same {H H' : Hp} {a : Addr} {L : List (Addr × List Int)} (t : TabAt H a L) (s : Same H H') : TabAt H' a L := ⟨s _ _ t.tab, fun p hp => s _ _ (t.row p hp)⟩
theorem iV_get {ns : List Int} {i : Nat} {x : V} (h : (iV ns)[i]? = some x) : ∃ n, ns[i]? = some n ∧ x = .int n := by
  rw [List.getElem?_map] at h
  obtain ⟨n, hn, e⟩ := Option.map_eq_some_iff.mp h
  exact ⟨n, hn, e.symm⟩
theorem rV_get {α : Type} {L : List (Addr × α)} {i : Nat} {x : V} (h : (rV L)[i]? = some x) : ∃ p, L[i]? = some p ∧ x = .ref p.1 := by
  rw [List.getElem?_map] at h
  obtain ⟨n, hn, e⟩ := Option.map_eq_some_iff.mp h
  exact ⟨n, hn, e.symm⟩
/-- a row's value at a column, as a subscript finds it -/
theorem atI_row {r : List Int} {c : Int} (h0 : 0 ≤ c) (h1 : c < (r.length : Int)) : atI (iV r) c = some (.int (at_ r c)) := by
  have hlt : c.toNat < r.length := by omega
  have e : atI (iV r) ((c.toNat : Nat) : Int) = some (.int (at_ r c)) := by
    refine atI_nat (j := c.toNat) ?_
    rw [List.getElem?_map, List.getElem?_eq_getElem hlt]
    unfold at_
    rw [List.getD_eq_getElem?_getD, List.getElem?_eq_getElem hlt]
    rfl
  rw [Int.toNat_of_nonneg h0] at e
  exact e
/-- a comprehension's turn without a test -/
theorem yes_turn {te : TE} {σ : L2.St} {H : Hp} {k : V → Hp → Prop} {N : Hp → Prop} (h : te σ H k) : tYes σ H fun b H3 => if b = true then te σ H3 k else N H3 := by
  show if true = true then te σ H k else N H
  rw [if_pos rfl]
  exact h
theorem take_snoc {α : Type} {l : List α} {i : Nat} {x : α} (h : l[i]? = some x) : l.take (i + 1) = l.take i ++ [x] := by
  rw [List.take_add_one, h]
  rfl
theorem iV_snoc (l : List Int) (n : Int) : iV (l ++ [n]) = iV l ++ [V.int n] := by
  show (l ++ [n]).map V.int = _
  rw [List.map_append]
  rfl
theorem iV_grow {l : List Int} {i : Nat} {n : Int} (h : l[i]? = some n) : iV (l.take i) ++ [V.int n] = iV (l.take (i + 1)) := by
  rw [take_snoc h, iV_snoc]
theorem rV_snoc {α : Type} (l : List (Addr × α)) (p : Addr × α) : rV (l ++ [p]) = rV l ++ [V.ref p.1] := by
  show (l ++ [p]).map (fun p => V.ref p.1) = _
  rw [List.map_append]
  rfl
theorem iV_length (l : List Int) : (iV l).length = l.length := List.length_map _
theorem rV_length {α : Type} (l : List (Addr × α)) : (rV l).length = l.length := List.length_map _
/-- a new object that grows: what stood before it stands -/
theorem same_grow {H H' : Hp} {D : Addr} {o : HO} (s : Same H H') (nD : H D = none) : Same H (upd H' D o) := fun b u e => by
  rw [upd_ne (ne_of_none e nD)]
  exact s _ _ e
theorem small_of {n m : Nat} (h : n ≤ m) (hm : m ≤ 1000) : n < sizeLine := small1000 (Nat.le_trans h hm)

/-! ### equal data -/
theorem dp_iV {K : PySem.W.Frag} {H : Hp} (ns : List Int) : DpAll K H (iV ns) (ns.map PyData.int) := by
  induction ns with
  | nil => exact .nil
  | cons n ns ih => exact .cons (.int n) ih
theorem dp_bV {K : PySem.W.Frag} {H : Hp} (bs : List Bool) : DpAll K H (bs.map V.bl) (bs.map PyData.bool) := by
  induction bs with
  | nil => exact .nil
  | cons n ns ih => exact .cons (.bl n) ih
theorem lay_ints (ns : List Int) : PyData.canLayAll0 (ns.map PyData.int) = true := by
  induction ns with
  | nil => rw [List.map_nil, PyData.canLayAll0]
  | cons n ns ih => rw [List.map_cons, PyData.canLayAll0, ih, PyData.canLay0, Bool.and_self]
theorem lay_bools (ns : List Bool) : PyData.canLayAll0 (ns.map PyData.bool) = true := by
  induction ns with
  | nil => rw [List.map_nil, PyData.canLayAll0]
  | cons n ns ih => rw [List.map_cons, PyData.canLayAll0, ih, PyData.canLay0, Bool.and_self]
theorem depth_ints (ns : List Int) : PyData.depthAll (ns.map PyData.int) = 0 := by
  induction ns with
  | nil => rw [List.map_nil, PyData.depthAll]
  | cons n ns ih => rw [List.map_cons, PyData.depthAll, ih, PyData.depth, Nat.max_self]
theorem depth_bools (ns : List Bool) : PyData.depthAll (ns.map PyData.bool) = 0 := by
  induction ns with
  | nil => rw [List.map_nil, PyData.depthAll]
  | cons n ns ih => rw [List.map_cons, PyData.depthAll, ih, PyData.depth, Nat.max_self]
theorem shaped_tup (ns : List Int) : SeqAt.shaped (.tuple (ns.map PyData.int)) = true := by
  unfold SeqAt.shaped
  rw [PyData.canLay0, lay_ints, PyData.depth, depth_ints]
  rfl
theorem shaped_lst (ns : List Int) : SeqAt.shaped (.list (ns.map PyData.int)) = true := by
  unfold SeqAt.shaped
  rw [PyData.canLay0, lay_ints, PyData.depth, depth_ints]
  rfl
theorem shaped_bls (ns : List Bool) : SeqAt.shaped (.list (ns.map PyData.bool)) = true := by
  unfold SeqAt.shaped
  rw [PyData.canLay0, lay_bools, PyData.depth, depth_bools]
  rfl
theorem eqv_ints : ∀ ns ms : List Int, PyData.eqvAll (ns.map PyData.int) (ms.map PyData.int) = decide (ns = ms)
  | [], [] => by rw [List.map_nil, PyData.eqvAll]; rfl
  | [], m :: ms => by rw [List.map_nil, List.map_cons, PyData.eqvAll]; rfl
  | n :: ns, [] => by rw [List.map_nil, List.map_cons, PyData.eqvAll]; rfl
  | n :: ns, m :: ms => by
    rw [List.map_cons, List.map_cons, PyData.eqvAll, PyData.eqv, eqv_ints ns ms]
    by_cases h : n = m
    · subst h
      rw [beq_self_eq_true, Bool.true_and]
      refine decide_eq_decide.mpr ⟨fun e => by rw [e], fun e => (List.cons.inj e).2⟩
    · rw [beq_eq_false_iff_ne.mpr h, Bool.false_and]
      exact (decide_eq_false fun e => h (List.cons.inj e).1).symm
theorem eqv_bools : ∀ ns ms : List Bool, PyData.eqvAll (ns.map PyData.bool) (ms.map PyData.bool) = decide (ns = ms)
  | [], [] => by rw [List.map_nil, PyData.eqvAll]; rfl
  | [], m :: ms => by rw [List.map_nil, List.map_cons, PyData.eqvAll]; rfl
  | n :: ns, [] => by rw [List.map_nil, List.map_cons, PyData.eqvAll]; rfl
  | n :: ns, m :: ms => by
    rw [List.map_cons, List.map_cons, PyData.eqvAll, PyData.eqv, eqv_bools ns ms]
    by_cases h : n = m
    · subst h
      rw [beq_self_eq_true, Bool.true_and]
      refine decide_eq_decide.mpr ⟨fun e => by rw [e], fun e => (List.cons.inj e).2⟩
    · rw [beq_eq_false_iff_ne.mpr h, Bool.false_and]
      exact (decide_eq_false fun e => h (List.cons.inj e).1).symm
/-- == of two tuples of ints, of two lists of ints, of two lists of bools -/
theorem eqD_tup {K : PySem.W.Frag} {H : Hp} {a b : Addr} {ns ms : List Int} {Q : VK} (ha : H a = some (.tup (iV ns))) (hb : H b = some (.tup (iV ms))) (q : Q (.bl (decide (ns = ms))) H) : rEqD K (.ref a) (.ref b) H Q := by
  refine ⟨_, _, .tup (SqT.of ha) (dp_iV ns), .tup (SqT.of hb) (dp_iV ms), shaped_tup ns, shaped_tup ms, ?_⟩
  rw [PyData.eqv, eqv_ints]
  exact q
theorem eqD_lst {K : PySem.W.Frag} {H : Hp} {a b : Addr} {ns ms : List Int} {Q : VK} (ha : H a = some (.lst (iV ns))) (hb : H b = some (.lst (iV ms))) (q : Q (.bl (decide (ns = ms))) H) : rEqD K (.ref a) (.ref b) H Q := by
  refine ⟨_, _, .lst (SqL.of ha) (dp_iV ns), .lst (SqL.of hb) (dp_iV ms), shaped_lst ns, shaped_lst ms, ?_⟩
  rw [PyData.eqv, eqv_ints]
  exact q
theorem neD_bls {K : PySem.W.Frag} {H : Hp} {a b : Addr} {ns ms : List Bool} {Q : VK} (ha : H a = some (.lst (ns.map V.bl))) (hb : H b = some (.lst (ms.map V.bl))) (q : Q (.bl (!decide (ns = ms))) H) : rNeD K (.ref a) (.ref b) H Q := by
  refine ⟨_, _, .lst (SqL.of ha) (dp_bV ns), .lst (SqL.of hb) (dp_bV ms), shaped_bls ns, shaped_bls ms, ?_⟩
  rw [PyData.eqv, eqv_bools]
  exact q
theorem flat_iV (ns : List Int) : (iV ns).all flatV = true := by
  rw [List.all_eq_true]
  intro x hx
  obtain ⟨n, _, e⟩ := List.mem_map.mp hx
  rw [← e]
  rfl
theorem inV_iV (c : Int) (ns : List Int) : inV (.int c) (iV ns) = decide (c ∈ ns) := by
  unfold inV
  rw [Bool.eq_iff_iff, List.any_eq_true, decide_eq_true_eq]
  constructor
  · rintro ⟨x, hx, e⟩
    obtain ⟨n, hn, e2⟩ := List.mem_map.mp hx
    rw [← e2] at e
    have e3 : (n == c) = true := e
    rw [← beq_iff_eq.mp e3]
    exact hn
  · intro h
    exact ⟨.int c, List.mem_map.mpr ⟨c, h, rfl⟩, beq_self_eq_true c⟩
/-- c in a tuple of ints; c not in one -/
theorem rIn_tup {K : PySem.W.Frag} {H : Hp} {a : Addr} {ns : List Int} {c : Int} {Q : VK} (ha : H a = some (.tup (iV ns))) (q : Q (.bl (decide (c ∈ ns))) H) : rIn K false (.int c) (.ref a) H Q := by
  refine ⟨a, _, rfl, .inr (SqT.of ha), rfl, flat_iV ns, ?_⟩
  rw [if_neg Bool.false_ne_true, inV_iV]
  exact q
theorem rNotIn_tup {K : PySem.W.Frag} {H : Hp} {a : Addr} {ns : List Int} {c : Int} {Q : VK} (ha : H a = some (.tup (iV ns))) (q : Q (.bl (!decide (c ∈ ns))) H) : rIn K true (.int c) (.ref a) H Q := by
  refine ⟨a, _, rfl, .inr (SqT.of ha), rfl, flat_iV ns, ?_⟩
  rw [if_pos rfl, inV_iV]
  exact q
/-- a subset without doubles is no longer -/
theorem nodup_le {α : Type} [DecidableEq α] : ∀ {l m : List α}, l.Nodup → (∀ x ∈ l, x ∈ m) → l.length ≤ m.length
  | [], _, _, _ => Nat.zero_le _
  | x :: l, m, h, s => by
    obtain ⟨h1, h2⟩ := List.nodup_cons.mp h
    have hx : x ∈ m := s x List.mem_cons_self
    have z := nodup_le (l := l) (m := m.erase x) h2 fun y hy => (List.mem_erase_of_ne fun (e : y = x) => h1 (e ▸ hy)).mpr (s y (List.mem_cons_of_mem _ hy))
    rw [List.length_erase_of_mem hx] at z
    have p := List.length_pos_of_mem hx
    rw [List.length_cons]
    omega
theorem tup_upd {H : Hp} {b D : Addr} {ns : List Int} {xs : List V} {o : HO} (hb : TupAt H b ns) (hD : H D = some (.lst xs)) : TupAt (upd H D o) b ns := by
  have ne : b ≠ D := ne_of hb hD (by intro z; cases z)
  show upd H D o b = _
  rw [upd_ne ne]
  exact hb
end N22
set_option Elab.async false
set_option linter.all false
set_option maxRecDepth 100000
set_option maxHeartbeats 4000000
/-! picked, projected, agree, dealt_row. -/
namespace N22
open PySem PySem.Spec PyProof.Rows L2
section
variable {P : Program} {w : World} {K : PySem.W.Frag} {mg : Str → Option Value} {base : Heap}
/-- picked of a row (a tuple) and columns -/
def spPicked : Sp := fun vs H Q _ => ∃ (a c : Addr) (r cs : List Int), vs = [.ref a, .ref c] ∧ TupAt H a r ∧ TupAt H c cs ∧ InW r.length cs ∧ cs.length ≤ 100 ∧
  ∀ H' p, Same H H' → H p = none → TupAt H' p (pick r cs) → Q (.ref p) H'
theorem ok_picked {f : Addr} {fd : FuncData} {k : Nat} (F : Fun K "picked" "picked" sPicked f fd) (mt : mg "tuple" = none) : FnOk P w K mg base CX0 (k + 1) f fd ["row", "columns"] spPicked := by
  refine F.ok scPicked (fun vs H Q E h => ?_) (fun cdv A outer s H vs Q E hr h => ?_)
  · obtain ⟨a, c, r, cs, e, _⟩ := h
    rw [e]
    rfl
  · obtain ⟨a, c, r, cs, e, ha, hc, hin, hlen, q⟩ := h
    subst e
    refine ⟨_, pss_one (ps_ret (pe_callTy call_tuple_of (by rfl) mt (by decide +kernel) (pa_cons
      (pe_lc (own := [("column", 2)]) (g := gName 2) (te := tOp (rIxT K) (tVar 0) (tVar 2)) rfl scPicked.nd (pi_tup (pv 1)) (blkOk_by (N := nPicked) (sc := defScope sPicked) (by decide +kernel)) (fun _ _ _ _ _ => pg_name (i := 2) scPicked.nd rfl (Or.inl rfl)) (fun _ _ _ _ _ => pts_nil)
        (fun _ _ _ _ _ => pe_ix ix_tup (pv 0) (pv 2) (fun _ _ => rfl))) pa_nil))), ?_⟩
    refine ⟨_, rfl, c, rfl, ⟨_, SqT.of hc⟩, fun D nD => lc_tup (xs := iV cs) (fun i H' => Same H H' ∧ H' D = some (.lst (iV ((pick r cs).take i)))) ⟨same_upd nD, upd_same⟩ (fun i H' _ p => SqT.of (p.1 _ _ hc)) (fun i x H' hx p => ?_) fun H' p => ?_⟩
    · obtain ⟨n, hn, rfl⟩ := iV_get hx
      obtain ⟨h0, h1⟩ := hin n (List.mem_of_getElem? hn)
      refine ⟨rfl, yes_turn ?_⟩
      have e : (pick r cs)[i]? = some (at_ r n) := by
        unfold pick
        rw [List.getElem?_map, hn]
        rfl
      refine ⟨_, rfl, _, rfl, a, _, n, _, rfl, rfl, SqT.of (p.1 _ _ ha), atI_row h0 h1, _, p.2, ?_, same_grow p.1 nD, ?_⟩
      · rw [iV_length, List.length_take, pick_length]
        exact small_of (Nat.le_trans (Nat.min_le_right _ _) hlen) (by decide)
      · rw [upd_same, iV_grow e]
    · obtain ⟨s1, hD⟩ := p
      have el : (iV cs).length = (pick r cs).length := by rw [List.length_map, pick_length]
      rw [el, List.take_length] at hD
      refine ⟨D, _, rfl, .inl ⟨SqL.of hD, fun l hl => ?_⟩⟩
      exact q _ l (s1.trans (same_upd hl)) (s1.free hl) upd_same
/-- picked of a dict and a list of columns -/
def spPickedD : Sp := fun vs H Q _ => ∃ (a c : Addr) (m : Mp) (g : Int → Int) (cs : List Int), vs = [.ref a, .ref c] ∧ H a = some (.dK m) ∧ H c = some (.lst (iV cs)) ∧ (∀ n ∈ cs, valV m (.inl n) = some (.int (g n))) ∧ cs.length ≤ 100 ∧
  ∀ H' p, Same H H' → H p = none → TupAt H' p (cs.map g) → Q (.ref p) H'
theorem ok_pickedD {f : Addr} {fd : FuncData} {k : Nat} (F : Fun K "picked" "picked" sPicked f fd) (mt : mg "tuple" = none) : FnOk P w K mg base CX0 (k + 1) f fd ["row", "columns"] spPickedD := by
  refine F.ok scPicked (fun vs H Q E h => ?_) (fun cdv A outer s H vs Q E hr h => ?_)
  · obtain ⟨a, c, m, g, cs, e, _⟩ := h
    rw [e]
    rfl
  · obtain ⟨a, c, m, g, cs, e, ha, hc, hg, hlen, q⟩ := h
    subst e
    refine ⟨_, pss_one (ps_ret (pe_callTy call_tuple_of (by rfl) mt (by decide +kernel) (pa_cons
      (pe_lc (own := [("column", 2)]) (g := gName 2) (te := tDGet (tVar 0) (tVar 2)) rfl scPicked.nd (pi_list (pv 1)) (blkOk_by (N := nPicked) (sc := defScope sPicked) (by decide +kernel)) (fun _ _ _ _ _ => pg_name (i := 2) scPicked.nd rfl (Or.inl rfl)) (fun _ _ _ _ _ => pts_nil)
        (fun _ _ _ _ _ => pe_dget (hu_of hr) (pv 0) (pv 2) (fun _ _ => rfl))) pa_nil))), ?_⟩
    refine ⟨_, rfl, c, rfl, ⟨_, SqL.of hc⟩, fun D nD => lc_list (xs := iV cs) (fun i H' => Same H H' ∧ H' D = some (.lst (iV ((cs.map g).take i)))) ⟨same_upd nD, upd_same⟩ (fun i H' _ p => SqL.of (p.1 _ _ hc)) (fun i x H' hx p => ?_) fun H' p => ?_⟩
    · obtain ⟨n, hn, rfl⟩ := iV_get hx
      have e : (cs.map g)[i]? = some (g n) := by
        rw [List.getElem?_map, hn]
        rfl
      have dg : DGet H' a (.int n) (some (.int (g n))) := by
        rw [← hg n (List.mem_of_getElem? hn)]
        exact DGet.k (k := Sum.inl n) (p.1 _ _ ha)
      refine ⟨rfl, yes_turn ?_⟩
      refine ⟨_, rfl, _, rfl, a, _, rfl, dg, _, p.2, ?_, same_grow p.1 nD, ?_⟩
      · rw [iV_length, List.length_take, List.length_map]
        exact small_of (Nat.le_trans (Nat.min_le_right _ _) hlen) (by decide)
      · rw [upd_same, iV_grow e]
    · obtain ⟨s1, hD⟩ := p
      have el : (iV cs).length = (cs.map g).length := by rw [List.length_map, List.length_map]
      rw [el, List.take_length] at hD
      refine ⟨D, _, rfl, .inl ⟨SqL.of hD, fun l hl => ?_⟩⟩
      exact q _ l (s1.trans (same_upd hl)) (s1.free hl) upd_same
/-- the projection -/
def spProjected : Sp := fun vs H Q _ => ∃ (a c : Addr) (L : List (Addr × List Int)) (cs : List Int), vs = [.ref a, .ref c] ∧ TabAt H a L ∧ TupAt H c cs ∧ cs ≠ [] ∧ (∀ p ∈ L, InW p.2.length cs) ∧ cs.length ≤ 100 ∧ L.length < 64 ∧
  ∀ H' p L', Same H H' → H p = none → TabAt H' p L' → (∀ r, r ∈ L'.map (·.2) ↔ ∃ q ∈ L, pick q.2 cs = r) → L'.length ≤ L.length → Q (.ref p) H'
theorem ok_projected {f f1 : Addr} {fd fd1 : FuncData} {k : Nat} (F : Fun K "projected" "projected" sProjected f fd) (F1 : Fun K "picked" "picked" sPicked f1 fd1) (b1 : Binds K fd1 ["row", "columns"] []) (m1 : mg "picked" = some (.ref f1))
    (mt : mg "tuple" = none) (ms : mg "sorted" = none) (mS : mg "set" = none) : FnOk P w K mg base CX0 (k + 2) f fd ["rows", "columns"] spProjected := by
  have G1 : FnOk P w K mg base CX0 (k + 1) f1 fd1 ["row", "columns"] spPicked := ok_picked F1 mt
  refine F.ok scProjected (fun vs H Q E h => ?_) (fun cdv A outer s H vs Q E hr h => ?_)
  · obtain ⟨a, c, L, cs, e, _⟩ := h
    rw [e]
    rfl
  · obtain ⟨a, c, L, cs, e, hT, hc, hne, hin, hlen, hL, q⟩ := h
    subst e
    refine ⟨_, pss_one (ps_ret (pe_callTy call_tuple_of (by rfl) mt (by decide +kernel) (pa_cons (pe_callB (cr_sortTany rfl) (by rfl) ms (by decide +kernel) (pa_cons (pe_callTy (cr_setOfT rfl hr.units) (by rfl) mS (by decide +kernel) (pa_cons
      (pe_lc (own := [("row", 2)]) (g := gName 2) (te := tCall spPicked [] E0 (tCons (tVar 2) (tCons (tVar 1) tNil))) rfl scProjected.nd (pi_tup (pv 0)) (blkOk_by (N := nProjected) (sc := defScope sProjected) (by decide +kernel)) (fun _ _ _ _ _ => pg_name (i := 2) scProjected.nd rfl (Or.inl rfl)) (fun _ _ _ _ _ => pts_nil)
        (fun _ _ _ _ _ => pe_call G1 hr (by rfl) m1 F1.kp b1 .nil pass0 (pa_cons (pv 2) (pa_cons (pv 1) pa_nil)))) pa_nil)) pa_nil)) pa_nil))), ?_⟩
    refine ⟨_, rfl, a, rfl, ⟨_, SqT.of hT.tab⟩, fun D nD => lc_tup (xs := rV L) (fun i H' => Same H H' ∧ ∃ ks : List (Addr × List Int), H' D = some (.lst (rV ks)) ∧ ks.map (·.2) = (L.take i).map (fun p => pick p.2 cs) ∧ ∀ p ∈ ks, TupAt H' p.1 p.2)
      ⟨same_upd nD, [], upd_same, rfl, fun p hp => by cases hp⟩ (fun i H' _ p => SqT.of (p.1 _ _ hT.tab)) (fun i x H' hx p => ?_) fun H' p => ?_⟩
    · obtain ⟨s1, ks, hD, ek, hk⟩ := p
      obtain ⟨r, hr1, rfl⟩ := rV_get hx
      have mem : r ∈ L := List.mem_of_getElem? hr1
      have klen : ks.length = min i L.length := by
        have z := congrArg List.length ek
        rw [List.length_map, List.length_map, List.length_take] at z
        exact z
      refine ⟨rfl, yes_turn ?_⟩
      refine ⟨_, rfl, _, rfl, r.1, c, r.2, cs, rfl, s1 _ _ (hT.row r mem), s1 _ _ hc, hin r mem, hlen, fun H2 p s2 np tp => ?_⟩
      refine ⟨_, s2 _ _ hD, ?_, same_grow (s1.trans s2) nD, ks ++ [(p, pick r.2 cs)], ?_, ?_, fun z hz => ?_⟩
      · rw [rV_length, klen]
        exact small_of (Nat.le_trans (Nat.min_le_right _ _) (Nat.le_of_lt hL)) (by decide)
      · rw [upd_same, rV_snoc]
      · rw [take_snoc hr1, List.map_append, List.map_append, ek]
        rfl
      · rcases List.mem_append.mp hz with y | y
        · exact tup_upd (s2 _ _ (hk z y)) (s2 _ _ hD)
        · rw [List.mem_singleton.mp y]
          exact tup_upd tp (s2 _ _ hD)
    · obtain ⟨s1, ks, hD, ek, hk⟩ := p
      rw [rV_length, List.take_length] at ek
      have klen : ks.length = L.length := by
        have z := congrArg List.length ek
        rw [List.length_map, List.length_map] at z
        exact z
      refine ⟨D, ks, rfl, SqL.of hD, fun z hz => SqT.of (hk z hz), by omega, fun S L1 nS sub all => ?_⟩
      have k1 : ∀ z ∈ L1, TupAt (upd H' S (SetTO P w S L1)) z.1 z.2 := fun z hz => same_upd nS _ _ (hk z (sub z hz))
      have dim : ∀ z ∈ L1, z.2.length = cs.length := fun z hz => by
        have m : z.2 ∈ ks.map (·.2) := List.mem_map.mpr ⟨z, sub z hz, rfl⟩
        rw [ek] at m
        obtain ⟨y, _, e⟩ := List.mem_map.mp m
        rw [← e, pick_length]
      refine ⟨S, L1, cs.length, rfl, upd_same, fun z hz => SqT.of (k1 z hz), List.length_pos_iff.mpr hne, dim, fun L2 l pm nd few nl => ?_⟩
      refine ⟨l, _, rfl, .inl ⟨SqL.of upd_same, fun t nt => ?_⟩⟩
      have s2 : Same H' (upd (upd (upd H' S (SetTO P w S L1)) l (.lst (rV L2))) t (.tup (rV L2))) := ((same_upd nS).trans (same_upd nl)).trans (same_upd nt)
      refine q _ t L2 (s1.trans s2) ((s1.trans ((same_upd nS).trans (same_upd nl))).free nt) ⟨upd_same, fun z hz => s2 _ _ (hk z (sub z (pm.mem_iff.mp hz)))⟩ (fun r => ?_) ?_
      · rw [(pm.map (·.2)).mem_iff]
        constructor
        · intro h
          obtain ⟨z, hz, e⟩ := List.mem_map.mp h
          have m : z.2 ∈ ks.map (·.2) := List.mem_map.mpr ⟨z, sub z hz, rfl⟩
          rw [ek] at m
          obtain ⟨y, hy, e2⟩ := List.mem_map.mp m
          exact ⟨y, hy, e2.trans e⟩
        · rintro ⟨y, hy, e⟩
          have m : r ∈ ks.map (·.2) := by
            rw [ek]
            exact List.mem_map.mpr ⟨y, hy, e⟩
          obtain ⟨z, hz, e2⟩ := List.mem_map.mp m
          rw [← e2]
          exact all z hz
      · have n1 : L1.Nodup := pm.nodup_iff.mp (nodup_of_map nd)
        rw [pm.length_eq, ← klen]
        exact nodup_le n1 sub
/-- whether two rows agree -/
def spAgree : Sp := fun vs H Q _ => ∃ (a b c : Addr) (r r2 cs : List Int), vs = [.ref a, .ref b, .ref c] ∧ TupAt H a r ∧ TupAt H b r2 ∧ TupAt H c cs ∧ InW r.length cs ∧ InW r2.length cs ∧ cs.length ≤ 100 ∧
  ∀ H', Same H H' → Q (.bl (decide (pick r cs = pick r2 cs))) H'
theorem ok_agree {f f1 : Addr} {fd fd1 : FuncData} {k : Nat} (F : Fun K "agree" "agree" sAgree f fd) (F1 : Fun K "picked" "picked" sPicked f1 fd1) (b1 : Binds K fd1 ["row", "columns"] []) (m1 : mg "picked" = some (.ref f1)) (mt : mg "tuple" = none) :
    FnOk P w K mg base CX0 (k + 2) f fd ["one", "other", "columns"] spAgree := by
  have G1 : FnOk P w K mg base CX0 (k + 1) f1 fd1 ["row", "columns"] spPicked := ok_picked F1 mt
  refine F.ok scAgree (fun vs H Q E h => ?_) (fun cdv A outer s H vs Q E hr h => ?_)
  · obtain ⟨a, b, c, r, r2, cs, e, _⟩ := h
    rw [e]
    rfl
  · obtain ⟨a, b, c, r, r2, cs, e, ha, hb, hc, hi, hi2, hlen, q⟩ := h
    subst e
    refine ⟨_, pss_one (ps_ret (pe_cmpR (op_eqD hr.units) (pe_call G1 hr (by rfl) m1 F1.kp b1 .nil pass0 (pa_cons (pv 0) (pa_cons (pv 2) pa_nil))) (pe_call G1 hr (by rfl) m1 F1.kp b1 .nil pass0 (pa_cons (pv 1) (pa_cons (pv 2) pa_nil))) (nomark _))), ?_⟩
    refine ⟨_, rfl, _, rfl, a, c, r, cs, rfl, ha, hc, hi, hlen, fun H1 p s1 np tp => ?_⟩
    refine ⟨_, rfl, _, rfl, b, c, r2, cs, rfl, s1 _ _ hb, s1 _ _ hc, hi2, hlen, fun H2 p2 s2 np2 tp2 => ?_⟩
    exact eqD_tup (s2 _ _ tp) tp2 (q _ (s1.trans s2))
/-- the dealt row -/
def spDealt : Sp := fun vs H Q _ => ∃ (a b l r : Addr) (ra rb ls rs : List Int), vs = [.ref a, .ref b, .ref l, .ref r] ∧ TupAt H a ra ∧ TupAt H b rb ∧ TupAt H l ls ∧ TupAt H r rs ∧ ra.length = rb.length ∧ ra.length ≤ 100 ∧
  ∀ H' p, Same H H' → H p = none → TupAt H' p (dealt ra.length ra rb ls rs) → Q (.ref p) H'
theorem ok_dealt {f : Addr} {fd : FuncData} {k : Nat} (F : Fun K "dealt_row" "dealt_row" sDealtRow f fd) (mt : mg "tuple" = none) (mr : mg "range" = none) (ml : mg "len" = none) : FnOk P w K mg base CX0 (k + 1) f fd ["one", "other", "left", "right"] spDealt := by
  refine F.ok scDealtRow (fun vs H Q E h => ?_) (fun cdv A outer s H vs Q E hr h => ?_)
  · obtain ⟨a, b, l, r, ra, rb, ls, rs, e, _⟩ := h
    rw [e]
    rfl
  · obtain ⟨a, b, l, r, ra, rb, ls, rs, e, ha, hb, hl, hr1, hlen, h100, q⟩ := h
    subst e
    refine ⟨_, pss_one (ps_ret (pe_callTy call_tuple_of (by rfl) mt (by decide +kernel) (pa_cons
      (pe_lc (own := [("column", 4)]) (g := gName 4) (te := tIf (tOr (tTest (tOp (rIn K false) (tVar 4) (tVar 2))) (tTest (tOp (rIn K false) (tVar 4) (tVar 3)))) (tOp (rIxT K) (tVar 0) (tVar 4)) (tOp (rIxT K) (tVar 1) (tVar 4))) rfl scDealtRow.nd
        (pi_range1 (by rfl) mr (pa_cons (pe_callB call_len_seq (by rfl) ml (by decide +kernel) (pa_cons (pv 0) pa_nil)) pa_nil)) (blkOk_by (N := nDealtRow) (sc := defScope sDealtRow) (by decide +kernel)) (fun _ _ _ _ _ => pg_name (i := 4) scDealtRow.nd rfl (Or.inl rfl)) (fun _ _ _ _ _ => pts_nil)
        (fun _ _ _ _ _ => pe_ifExp (PW.pt (pw_or (pt_cmpR op_in_seq (pv 4) (pv 2) (by rfl)) (pw_or1 (pt_cmpR op_in_seq (pv 4) (pv 3) (by rfl))))) (pe_ix ix_tup (pv 0) (pv 4) (fun _ _ => rfl)) (pe_ix ix_tup (pv 1) (pv 4) (fun _ _ => rfl)))) pa_nil))), ?_⟩
    have ll : (iV ra).length = ra.length := iV_length ra
    refine ⟨_, rfl, a, _, rfl, .inr (SqT.of ha), _, rfl, by rw [ll]; omega, by rw [ll]; omega, fun D nD => lc_range (lo := 0) (n := _) (fun i H' => Same H H' ∧ H' D = some (.lst (iV ((dealt ra.length ra rb ls rs).take i)))) ⟨same_upd nD, upd_same⟩ (fun i H' hi p => ?_) fun H' p => ?_⟩
    · rw [ll, Int.toNat_natCast] at hi
      have e : (dealt ra.length ra rb ls rs)[i]? = some (if (i : Int) ∈ ls ∨ (i : Int) ∈ rs then at_ ra (i : Int) else at_ rb (i : Int)) := by
        unfold dealt
        rw [List.getElem?_map, List.getElem?_range hi]
        rfl
      have ei : (0 : Int) + (i : Int) = (i : Int) := Int.zero_add _
      have i1 := atI_row (r := ra) (c := (i : Int)) (by omega) (by omega)
      have i2 := atI_row (r := rb) (c := (i : Int)) (by omega) (by omega)
      have fin : ∀ n : Int, (dealt ra.length ra rb ls rs)[i]? = some n → ∃ acc, H' D = some (.lst acc) ∧ acc.length < sizeLine ∧ Same H (upd H' D (.lst (acc ++ [V.int n]))) ∧ (upd H' D (.lst (acc ++ [V.int n]))) D = some (.lst (iV ((dealt ra.length ra rb ls rs).take (i + 1)))) := fun n en => by
        refine ⟨_, p.2, ?_, same_grow p.1 nD, by rw [upd_same, iV_grow en]⟩
        rw [iV_length, List.length_take, dealt_length]
        exact small_of (Nat.le_trans (Nat.min_le_right _ _) h100) (by decide)
      rw [ei]
      refine ⟨rfl, yes_turn ?_⟩
      refine ⟨_, rfl, _, rfl, rIn_tup (p.1 _ _ hl) ⟨_, rfl, ?_⟩⟩
      by_cases hL : (i : Int) ∈ ls
      · rw [decide_eq_true hL]
        refine iteT (iteT ?_)
        rw [if_pos (.inl hL)] at e
        exact ⟨_, rfl, _, rfl, a, _, _, _, rfl, rfl, SqT.of (p.1 _ _ ha), i1, fin _ e⟩
      · rw [decide_eq_false hL]
        refine iteF ?_
        refine ⟨_, rfl, _, rfl, rIn_tup (p.1 _ _ hr1) ⟨_, rfl, ?_⟩⟩
        by_cases hR : (i : Int) ∈ rs
        · rw [decide_eq_true hR]
          refine iteT ?_
          rw [if_pos (.inr hR)] at e
          exact ⟨_, rfl, _, rfl, a, _, _, _, rfl, rfl, SqT.of (p.1 _ _ ha), i1, fin _ e⟩
        · rw [decide_eq_false hR]
          refine iteF ?_
          rw [if_neg fun z => z.elim hL hR] at e
          exact ⟨_, rfl, _, rfl, b, _, _, _, rfl, rfl, SqT.of (p.1 _ _ hb), i2, fin _ e⟩
    · obtain ⟨s1, hD⟩ := p
      rw [ll, Int.toNat_natCast] at hD
      have el : (dealt ra.length ra rb ls rs).take ra.length = dealt ra.length ra rb ls rs := List.take_of_length_le (Nat.le_of_eq (dealt_length ..))
      rw [el] at hD
      refine ⟨D, _, rfl, .inl ⟨SqL.of hD, fun t nt => ?_⟩⟩
      exact q _ t (s1.trans (same_upd nt)) (s1.free nt) upd_same
end
end N22
set_option Elab.async false
set_option linter.all false
set_option maxRecDepth 100000
set_option maxHeartbeats 4000000
/-! settles_breach, deals_breach. -/
namespace N22
open PySem PySem.Spec PyProof.Rows L2
section
variable {P : Program} {w : World} {K : PySem.W.Frag} {mg : Str → Option Value} {base : Heap}
/-- a table of width n and two sets of its columns -/
structure Asked (H : Hp) (n : Nat) (a l r : Addr) (L : List (Addr × List Int)) (ls rs : List Int) : Prop where
  tab : TabAt H a L
  left : TupAt H l ls
  right : TupAt H r rs
  wide : ∀ p ∈ L, p.2.length = n
  inL : InW n ls
  inR : InW n rs
  smL : ls.length ≤ 100
  smR : rs.length ≤ 100
  smN : n ≤ 100
  few : L.length < 64
theorem Asked.same {H H' : Hp} {n : Nat} {a l r : Addr} {L : List (Addr × List Int)} {ls rs : List Int} (q : Asked H n a l r L ls rs) (s : Same H H') : Asked H' n a l r L ls rs :=
  ⟨q.tab.same s, s _ _ q.left, s _ _ q.right, q.wide, q.inL, q.inR, q.smL, q.smR, q.smN, q.few⟩
def spSettlesB : Sp := fun vs H Q _ => ∃ (n : Nat) (a l r : Addr) (L : List (Addr × List Int)) (ls rs : List Int), vs = [.ref a, .ref l, .ref r] ∧ Asked H n a l r L ls rs ∧
  ∀ v H', Same H H' → (v = .non ↔ Settles (L.map (·.2)) ls rs) → Q v H'
theorem ok_settlesB {f f1 f2 : Addr} {fd fd1 fd2 : FuncData} {k : Nat} (F : Fun K "settles_breach" "settles_breach" sSettlesBreach f fd) (F1 : Fun K "picked" "picked" sPicked f1 fd1) (b1 : Binds K fd1 ["row", "columns"] []) (m1 : mg "picked" = some (.ref f1))
    (F2 : Fun K "agree" "agree" sAgree f2 fd2) (b2 : Binds K fd2 ["one", "other", "columns"] []) (m2 : mg "agree" = some (.ref f2)) (mt : mg "tuple" = none) : FnOk P w K mg base CX0 (k + 3) f fd ["rows", "left", "right"] spSettlesB := by
  have G : FnOk P w K mg base CX0 (k + 2) f2 fd2 ["one", "other", "columns"] spAgree := ok_agree F2 F1 b1 m1 mt
  refine F.ok scSettlesBreach (fun vs H Q E h => ?_) (fun cdv A outer s H vs Q E hr h => ?_)
  · obtain ⟨n, a, l, r, L, ls, rs, e, _⟩ := h
    rw [e]
    rfl
  · obtain ⟨n, a, l, r, L, ls, rs, e, hA, q⟩ := h
    subst e
    refine ⟨_, pss_cons (ps_for PassesOwn.never rfl (pi_tup (pv 0)) (pg_name (i := 3) scSettlesBreach.nd rfl (Or.inl rfl)) (pss_one (ps_for PassesOwn.never rfl (pi_tup (pv 0)) (pg_name (i := 4) scSettlesBreach.nd rfl (Or.inl rfl))
      (pss_one (ps_if (PW.pt (pw_and (pt_val (pe_call G hr (by rfl) m2 F2.kp b2 .nil pass0 (pa_cons (pv 3) (pa_cons (pv 4) (pa_cons (pv 1) pa_nil))))) (pw_and1 (pt_not (pt_val (pe_call G hr (by rfl) m2 F2.kp b2 .nil pass0 (pa_cons (pv 3) (pa_cons (pv 4) (pa_cons (pv 2) pa_nil)))))))))
        (pss_one (ps_ret (pe_tup (pa_cons (pv 3) (pa_cons (pv 4) pa_nil))))) pss_nil))))) (pss_one (ps_ret pe_non)), ?_⟩
    refine ⟨_, rfl, a, rfl, ⟨_, SqT.of hA.tab.tab⟩, for_tup (xs := rV L) (fun i σ H' => ∃ y3 y4, σ = [some (.ref a), some (.ref l), some (.ref r), y3, y4] ∧ Same H H' ∧ ∀ p ∈ L.take i, ∀ z ∈ L, pick p.2 ls = pick z.2 ls → pick p.2 rs = pick z.2 rs)
      ⟨none, none, rfl, Same.refl H, fun p hp => by cases hp⟩ (fun i σ H' _ ⟨_, _, _, s1, _⟩ => SqT.of (s1 _ _ hA.tab.tab)) ?_ ?_⟩
    · rintro i x σ H1 hx ⟨y3, y4, rfl, s1, ok1⟩
      obtain ⟨p, hp, rfl⟩ := rV_get hx
      have mp : p ∈ L := List.mem_of_getElem? hp
      refine ⟨_, rfl, a, rfl, ⟨_, SqT.of (s1 _ _ hA.tab.tab)⟩, for_tup (xs := rV L) (fun j σ H' => ∃ y4, σ = [some (.ref a), some (.ref l), some (.ref r), some (.ref p.1), y4] ∧ Same H H' ∧ ∀ z ∈ L.take j, pick p.2 ls = pick z.2 ls → pick p.2 rs = pick z.2 rs)
        ⟨y4, rfl, s1, fun z hz => by cases hz⟩ (fun j σ H' _ ⟨_, _, s2, _⟩ => SqT.of (s2 _ _ hA.tab.tab)) ?_ ?_⟩
      · rintro j x2 σ H2 hx2 ⟨y4, rfl, s2, ok2⟩
        obtain ⟨z, hz, rfl⟩ := rV_get hx2
        have mz : z ∈ L := List.mem_of_getElem? hz
        have A2 := hA.same s2
        have wp := hA.wide p mp
        have wz := hA.wide z mz
        -- agree(one, other, left)
        refine ⟨_, rfl, _, rfl, _, rfl, p.1, z.1, l, p.2, z.2, ls, rfl, A2.tab.row p mp, A2.tab.row z mz, A2.left, by rw [wp]; exact hA.inL, by rw [wz]; exact hA.inL, hA.smL, fun H3 s3 => ⟨_, rfl, ?_⟩⟩
        have A3 := A2.same s3
        refine ite2 (fun h1 => ?_) (fun h1 => ?_)
        · have e1 := of_decide_eq_true h1
          -- not agree(one, other, right)
          refine ⟨_, rfl, _, rfl, _, rfl, p.1, z.1, r, p.2, z.2, rs, rfl, A3.tab.row p mp, A3.tab.row z mz, A3.right, by rw [wp]; exact hA.inR, by rw [wz]; exact hA.inR, hA.smR, fun H4 s4 => ⟨_, rfl, ?_⟩⟩
          refine ite2 (fun h2 => ?_) (fun h2 => ?_)
          · have e2 : ¬ pick p.2 rs = pick z.2 rs := fun y => by
              rw [decide_eq_true y] at h2
              cases h2
            refine ⟨_, rfl, _, rfl, by show 2 ≤ sizeLine; decide, fun t nt => ?_⟩
            refine q _ _ (((s2.trans s3).trans s4).trans (same_upd nt)) ⟨fun y => (nomatch y), fun S => absurd (S p.2 (List.mem_map.mpr ⟨p, mp, rfl⟩) z.2 (List.mem_map.mpr ⟨z, mz, rfl⟩) e1) e2⟩
          · have e2 : pick p.2 rs = pick z.2 rs := Classical.byContradiction fun y => h2 (by rw [decide_eq_false y]; rfl)
            refine ⟨_, rfl, (s2.trans s3).trans s4, fun y hy => ?_⟩
            rw [take_snoc hz] at hy
            rcases List.mem_append.mp hy with c | c
            · exact ok2 y c
            · rw [List.mem_singleton.mp c]
              exact fun _ => e2
        · refine iteF ⟨_, rfl, s2.trans s3, fun y hy => ?_⟩
          rw [take_snoc hz] at hy
          rcases List.mem_append.mp hy with c | c
          · exact ok2 y c
          · rw [List.mem_singleton.mp c]
            exact fun e1 => absurd (decide_eq_true e1) h1
      · rintro σ H2 ⟨y4, rfl, s2, ok2⟩
        refine ⟨_, _, rfl, s2, fun y hy => ?_⟩
        rw [take_snoc hp] at hy
        rcases List.mem_append.mp hy with c | c
        · exact ok1 y c
        · rw [List.mem_singleton.mp c]
          rw [rV_length, List.take_length] at ok2
          exact ok2
    · rintro σ H1 ⟨y3, y4, rfl, s1, ok1⟩
      rw [rV_length, List.take_length] at ok1
      refine q .non H1 s1 ⟨fun _ x hx y hy => ?_, fun _ => rfl⟩
      obtain ⟨p, hp, rfl⟩ := List.mem_map.mp hx
      obtain ⟨z, hz, rfl⟩ := List.mem_map.mp hy
      exact ok1 p hp z hz
def spDealsB : Sp := fun vs H Q _ => ∃ (n : Nat) (a l r : Addr) (L : List (Addr × List Int)) (ls rs : List Int), vs = [.ref a, .ref l, .ref r] ∧ Asked H n a l r L ls rs ∧
  ∀ v H', Same H H' → (v = .non ↔ Deals n (L.map (·.2)) ls rs) → Q v H'
theorem ok_dealsB {f f1 f2 f3 : Addr} {fd fd1 fd2 fd3 : FuncData} {k : Nat} (F : Fun K "deals_breach" "deals_breach" sDealsBreach f fd) (F1 : Fun K "picked" "picked" sPicked f1 fd1) (b1 : Binds K fd1 ["row", "columns"] []) (m1 : mg "picked" = some (.ref f1))
    (F2 : Fun K "agree" "agree" sAgree f2 fd2) (b2 : Binds K fd2 ["one", "other", "columns"] []) (m2 : mg "agree" = some (.ref f2)) (F3 : Fun K "dealt_row" "dealt_row" sDealtRow f3 fd3) (b3 : Binds K fd3 ["one", "other", "left", "right"] []) (m3 : mg "dealt_row" = some (.ref f3))
    (mt : mg "tuple" = none) (mr : mg "range" = none) (ml : mg "len" = none) (mS : mg "set" = none) : FnOk P w K mg base CX0 (k + 3) f fd ["rows", "left", "right"] spDealsB := by
  have G : FnOk P w K mg base CX0 (k + 2) f2 fd2 ["one", "other", "columns"] spAgree := ok_agree F2 F1 b1 m1 mt
  have GD : FnOk P w K mg base CX0 (k + 2) f3 fd3 ["one", "other", "left", "right"] spDealt := ok_dealt F3 mt mr ml
  refine F.ok scDealsBreach (fun vs H Q E h => ?_) (fun cdv A outer s H vs Q E hr h => ?_)
  · obtain ⟨n, a, l, r, L, ls, rs, e, _⟩ := h
    rw [e]
    rfl
  · obtain ⟨n, a, l, r, L, ls, rs, e, hA, q⟩ := h
    subst e
    refine ⟨_, pss_cons (ps_set (i := 3) scDealsBreach.nd rfl (.inl rfl) (pe_callTy (cr_setTT rfl hr.units) (by rfl) mS (by decide +kernel) (pa_cons (pv 0) pa_nil)))
      (pss_cons (ps_for PassesOwn.never rfl (pi_tup (pv 0)) (pg_name (i := 4) scDealsBreach.nd rfl (Or.inl rfl)) (pss_one (ps_for PassesOwn.never rfl (pi_tup (pv 0)) (pg_name (i := 5) scDealsBreach.nd rfl (Or.inl rfl))
      (pss_one (ps_if (PW.pt (pw_and (pt_val (pe_call G hr (by rfl) m2 F2.kp b2 .nil pass0 (pa_cons (pv 4) (pa_cons (pv 5) (pa_cons (pv 1) pa_nil))))) (pw_and1 (pt_cmpR (op_tnotin hr.units) (pe_call GD hr (by rfl) m3 F3.kp b3 .nil pass0 (pa_cons (pv 4) (pa_cons (pv 5) (pa_cons (pv 1) (pa_cons (pv 2) pa_nil))))) (pv 3) (by rfl)))))
        (pss_one (ps_ret (pe_tup (pa_cons (pv 4) (pa_cons (pv 5) pa_nil))))) pss_nil))))) (pss_one (ps_ret pe_non))), ?_⟩
    -- known = set(rows)
    refine ⟨_, rfl, a, L, rfl, SqT.of hA.tab.tab, fun p hp => SqT.of (hA.tab.row p hp), hA.few, fun S L1 nS sub all => ?_⟩
    have s0 : Same H (upd H S (SetTO P w S L1)) := same_upd nS
    have hS : (upd H S (SetTO P w S L1)) S = some (SetTO P w S L1) := upd_same
    have known : ∀ x : List Int, x ∈ L1.map (·.2) ↔ x ∈ L.map (·.2) := fun x => by
      constructor
      · intro h
        obtain ⟨z, hz, e⟩ := List.mem_map.mp h
        exact List.mem_map.mpr ⟨z, sub z hz, e⟩
      · intro h
        obtain ⟨z, hz, e⟩ := List.mem_map.mp h
        rw [← e]
        exact all z hz
    refine ⟨_, rfl, a, rfl, ⟨_, SqT.of (s0 _ _ hA.tab.tab)⟩, for_tup (xs := rV L) (fun i σ H' => ∃ y3 y4, σ = [some (.ref a), some (.ref l), some (.ref r), some (.ref S), y3, y4] ∧ Same (upd H S (SetTO P w S L1)) H' ∧ ∀ p ∈ L.take i, ∀ z ∈ L, pick p.2 ls = pick z.2 ls → dealt n p.2 z.2 ls rs ∈ L.map (·.2))
      ⟨none, none, rfl, Same.refl _, fun p hp => by cases hp⟩ (fun i σ H' _ ⟨_, _, _, s1, _⟩ => SqT.of ((s0.trans s1) _ _ hA.tab.tab)) ?_ ?_⟩
    · rintro i x σ H1 hx ⟨y3, y4, rfl, s1, ok1⟩
      obtain ⟨p, hp, rfl⟩ := rV_get hx
      have mp : p ∈ L := List.mem_of_getElem? hp
      refine ⟨_, rfl, a, rfl, ⟨_, SqT.of ((s0.trans s1) _ _ hA.tab.tab)⟩, for_tup (xs := rV L) (fun j σ H' => ∃ y4, σ = [some (.ref a), some (.ref l), some (.ref r), some (.ref S), some (.ref p.1), y4] ∧ Same (upd H S (SetTO P w S L1)) H' ∧ ∀ z ∈ L.take j, pick p.2 ls = pick z.2 ls → dealt n p.2 z.2 ls rs ∈ L.map (·.2))
        ⟨y4, rfl, s1, fun z hz => by cases hz⟩ (fun j σ H' _ ⟨_, _, s2, _⟩ => SqT.of ((s0.trans s2) _ _ hA.tab.tab)) ?_ ?_⟩
      · rintro j x2 σ H2 hx2 ⟨y4, rfl, s2, ok2⟩
        obtain ⟨z, hz, rfl⟩ := rV_get hx2
        have mz : z ∈ L := List.mem_of_getElem? hz
        have A2 := hA.same (s0.trans s2)
        have wp := hA.wide p mp
        have wz := hA.wide z mz
        refine ⟨_, rfl, _, rfl, _, rfl, p.1, z.1, l, p.2, z.2, ls, rfl, A2.tab.row p mp, A2.tab.row z mz, A2.left, by rw [wp]; exact hA.inL, by rw [wz]; exact hA.inL, hA.smL, fun H3 s3 => ⟨_, rfl, ?_⟩⟩
        have A3 := A2.same s3
        refine ite2 (fun h1 => ?_) (fun h1 => ?_)
        · have e1 := of_decide_eq_true h1
          refine ⟨_, rfl, _, rfl, _, rfl, _, rfl, p.1, z.1, l, r, p.2, z.2, ls, rs, rfl, A3.tab.row p mp, A3.tab.row z mz, A3.left, A3.right, by rw [wp, wz], by rw [wp]; exact hA.smN, fun H4 d s4 nd td => ?_⟩
          rw [wp] at td
          have s5 := (s2.trans s3).trans s4
          have A4 := A3.same s4
          refine ⟨_, rfl, d, S, _, L1, rfl, rfl, SqT.of td, s5 _ _ hS, fun y hy => SqT.of (A4.tab.row y (sub y hy)), _, rfl, ?_⟩
          rw [Bool.true_xor]
          refine ite2 (fun h2 => ?_) (fun h2 => ?_)
          · have e2 : ¬ dealt n p.2 z.2 ls rs ∈ L.map (·.2) := fun y => by
              rw [decide_eq_true ((known _).mpr y)] at h2
              cases h2
            refine ⟨_, rfl, _, rfl, by show 2 ≤ sizeLine; decide, fun t nt => ?_⟩
            refine q _ _ ((s0.trans s5).trans (same_upd nt)) ⟨fun y => (nomatch y), fun D => absurd (D p.2 (List.mem_map.mpr ⟨p, mp, rfl⟩) z.2 (List.mem_map.mpr ⟨z, mz, rfl⟩) e1) e2⟩
          · have e2 : dealt n p.2 z.2 ls rs ∈ L.map (·.2) := Classical.byContradiction fun y => h2 (by rw [decide_eq_false fun c => y ((known _).mp c)]; rfl)
            refine ⟨_, rfl, s5, fun y hy => ?_⟩
            rw [take_snoc hz] at hy
            rcases List.mem_append.mp hy with c | c
            · exact ok2 y c
            · rw [List.mem_singleton.mp c]
              exact fun _ => e2
        · refine iteF ⟨_, rfl, s2.trans s3, fun y hy => ?_⟩
          rw [take_snoc hz] at hy
          rcases List.mem_append.mp hy with c | c
          · exact ok2 y c
          · rw [List.mem_singleton.mp c]
            exact fun e1 => absurd (decide_eq_true e1) h1
      · rintro σ H2 ⟨y4, rfl, s2, ok2⟩
        refine ⟨_, _, rfl, s2, fun y hy => ?_⟩
        rw [take_snoc hp] at hy
        rcases List.mem_append.mp hy with c | c
        · exact ok1 y c
        · rw [List.mem_singleton.mp c]
          rw [rV_length, List.take_length] at ok2
          exact ok2
    · rintro σ H1 ⟨y3, y4, rfl, s1, ok1⟩
      rw [rV_length, List.take_length] at ok1
      refine q .non H1 (s0.trans s1) ⟨fun _ x hx y hy => ?_, fun _ => rfl⟩
      obtain ⟨p, hp, rfl⟩ := List.mem_map.mp hx
      obtain ⟨z, hz, rfl⟩ := List.mem_map.mp hy
      exact ok1 p hp z hz
end
end N22
set_option Elab.async false
set_option linter.all false
set_option maxRecDepth 100000
set_option maxHeartbeats 4000000
/-! extended, joined. -/
namespace N22
open PySem PySem.Spec PyProof.Rows L2
/-- a dict whose values are ints -/
def IntM (m : Mp) : Prop := ∀ (c : Int) (v : V), valV m (.inl c) = some v → ∃ i, v = .int i
theorem IntM.nil : IntM [] := fun c v h => by cases h
theorem putM_snoc (m : Mp) (qs : List (Int × Int)) (q : Int × Int) : putM m (qs ++ [q]) = putK (putM m qs) (.inl q.1) (.int q.2) := by
  unfold putM
  rw [List.foldl_append]
  rfl
theorem putM_length (qs : List (Int × Int)) : ∀ m : Mp, (putM m qs).length ≤ m.length + qs.length := by
  induction qs with
  | nil => exact fun m => Nat.le_refl _
  | cons q qs ih =>
    intro m
    have h1 := ih (putK m (.inl q.1) (.int q.2))
    have h2 := length_putK m (.inl q.1) (.int q.2)
    have e : putM m (q :: qs) = putM (putK m (.inl q.1) (.int q.2)) qs := rfl
    rw [e, List.length_cons]
    omega
theorem putM_ints (qs : List (Int × Int)) : ∀ m : Mp, IntM m → IntM (putM m qs) := by
  induction qs with
  | nil => exact fun m h => h
  | cons q qs ih =>
    intro m h
    refine ih (putK m (.inl q.1) (.int q.2)) fun c v e => ?_
    rw [valV_put] at e
    by_cases z : (Sum.inl c : Key) = Sum.inl q.1
    · rw [if_pos z] at e
      exact ⟨q.2, (Option.some.inj e).symm⟩
    · rw [if_neg z] at e
      exact h c v e
/-- what is said of the dicts: their values are ints, they are small -/
def GoodM (B : Nat) (ms : List Mp) : Prop := ∀ m ∈ ms, IntM m ∧ m.length ≤ B
theorem extM_good {B : Nat} {ms : List Mp} {rows : List (List Int)} {part : List Int} (h : GoodM B ms) : GoodM (B + part.length) (extM ms rows part) := by
  intro m hm
  obtain ⟨m0, h0, h1⟩ := List.mem_flatMap.mp hm
  obtain ⟨r, hr, e⟩ := List.mem_map.mp h1
  obtain ⟨i0, l0⟩ := h m0 h0
  rw [← e]
  refine ⟨putM_ints _ _ i0, Nat.le_trans (putM_length _ _) ?_⟩
  rw [List.length_zip]
  have z := Nat.min_le_left part.length r.length
  omega
/-- a list of dicts -/
structure DictsAt (H : Hp) (f : Addr) (ds : List (Addr × Mp)) : Prop where
  lst : H f = some (.lst (rV ds))
  at_ : ∀ p ∈ ds, H p.1 = some (.dK p.2)
theorem DictsAt.same {H H' : Hp} {f : Addr} {ds : List (Addr × Mp)} (d : DictsAt H f ds) (s : Same H H') : DictsAt H' f ds := ⟨s _ _ d.lst, fun p hp => s _ _ (d.at_ p hp)⟩
/-- grown by one, which is another dict -/
theorem DictsAt.snoc {H : Hp} {f : Addr} {ds : List (Addr × Mp)} {p : Addr} {m : Mp} (d : DictsAt H f ds) (hp : H p = some (.dK m)) : DictsAt (upd H f (.lst (rV ds ++ [.ref p]))) f (ds ++ [(p, m)]) := by
  refine ⟨by rw [upd_same, rV_snoc], fun q hq => ?_⟩
  have keep : ∀ {b : Addr} {kv : Mp}, H b = some (.dK kv) → (upd H f (.lst (rV ds ++ [.ref p]))) b = some (.dK kv) := fun {b kv} e => by
    rw [upd_ne (ne_of e d.lst (by intro z; cases z))]
    exact e
  rcases List.mem_append.mp hq with z | z
  · exact keep (d.at_ q z)
  · rw [List.mem_singleton.mp z]
    exact keep hp
section
variable {P : Program} {w : World} {K : PySem.W.Frag} {mg : Str → Option Value} {base : Heap}
def spExtended : Sp := fun vs H Q _ => ∃ (f a c : Addr) (ds : List (Addr × Mp)) (L : List (Addr × List Int)) (cs : List Int) (B : Nat), vs = [.ref f, .ref a, .ref c] ∧ DictsAt H f ds ∧ TabAt H a L ∧ TupAt H c cs ∧ (∀ p ∈ L, p.2.length = cs.length) ∧
  cs.length ≤ 100 ∧ GoodM B (ds.map (·.2)) ∧ B + cs.length ≤ 900 ∧ ds.length * L.length ≤ 900 ∧
  ∀ H' g es, Same H H' → H g = none → DictsAt H' g es → es.map (·.2) = extM (ds.map (·.2)) (L.map (·.2)) cs → Q (.ref g) H'
/-- the dicts made of one dict and the first rows -/
def fitM (m : Mp) (rows : List (List Int)) (cs : List Int) : List Mp := (rows.filter fun r => okM m cs r).map fun r => putM m (cs.zip r)
theorem extM_take {ms : List Mp} {rows : List (List Int)} {cs : List Int} {i : Nat} {m : Mp} (h : ms[i]? = some m) : extM (ms.take (i + 1)) rows cs = extM (ms.take i) rows cs ++ fitM m rows cs := by
  unfold extM fitM
  rw [take_snoc h, List.flatMap_append, List.flatMap_singleton]
theorem fitM_take {m : Mp} {rows : List (List Int)} {cs : List Int} {j : Nat} {r : List Int} (h : rows[j]? = some r) : fitM m (rows.take (j + 1)) cs = fitM m (rows.take j) cs ++ if okM m cs r = true then [putM m (cs.zip r)] else [] := by
  unfold fitM
  rw [take_snoc h, List.filter_append, List.map_append]
  by_cases z : okM m cs r = true
  · rw [if_pos z, List.filter_cons_of_pos z]
    rfl
  · rw [if_neg z, List.filter_cons_of_neg z]
    rfl
theorem fitM_length (m : Mp) (rows : List (List Int)) (cs : List Int) : (fitM m rows cs).length ≤ rows.length := by
  unfold fitM
  rw [List.length_map]
  exact List.length_filter_le _ _
theorem ok_extended {f : Addr} {fd : FuncData} {k : Nat} (F : Fun K "extended" "extended" sExtended f fd) (mz : mg "zip" = none) (mA : mg "all" = none) (mD : mg "dict" = none) : FnOk P w K mg base CX0 (k + 1) f fd ["found", "rows", "part"] spExtended := by
  refine F.ok scExtended (fun vs H Q E h => ?_) (fun cdv A outer s H vs Q E hr h => ?_)
  · obtain ⟨f, a, c, ds, L, cs, B, e, _⟩ := h
    rw [e]
    rfl
  · obtain ⟨f, a, c, ds, L, cs, B, e, hds, hT, hc, hw, hcs, hG, hB, h900, q⟩ := h
    subst e
    refine ⟨_, pss_cons (ps_set (i := 3) scExtended.nd rfl (.inl rfl) (pe_lst pa_nil))
      (pss_cons (ps_for PassesOwn.never rfl (pi_list (pv 0)) (pg_name (i := 4) scExtended.nd rfl (Or.inr rfl)) (pss_one (ps_for PassesOwn.never rfl (pi_tup (pv 1)) (pg_name (i := 5) scExtended.nd rfl (Or.inl rfl))
        (pss_one (ps_if (pt_val (pe_callB (cr_all rfl) (by rfl) mA (by decide +kernel) (pa_cons
            (pe_lc (own := [("column", 7), ("value", 8)]) (g := gTup K 2 (gCons (gName 7) (gCons (gName 8) gNil))) (te := tOp rEq (tDGet2 (tVar 4) (tVar 7) (tVar 8)) (tVar 8)) rfl scExtended.nd (RZ.pi_zipA (by rfl) mz (pa_cons (pv 2) (pa_cons (pv 5) pa_nil)))
              (blkOk_by (N := nExtended) (sc := defScope sExtended) (by decide +kernel)) (fun _ _ _ _ _ => pg_tup rfl (pgs_cons (pg_name (i := 7) scExtended.nd rfl (Or.inl rfl)) (pgs_cons (pg_name (i := 8) scExtended.nd rfl (Or.inl rfl)) pgs_nil))) (fun _ _ _ _ _ => pts_nil)
              (fun _ _ _ _ _ => pe_cmpR op_eq (pe_dget2 (hu_of hr) (pv 4) (pv 7) (pv 8) ⟨by rfl, by rfl, by rfl, by rfl⟩) (pv 8) (nomark _))) pa_nil)))
          (pss_cons (ps_set (i := 6) scExtended.nd rfl (.inl rfl) (pe_callTy call_dictD (by rfl) mD (by decide +kernel) (pa_cons (pv 4) pa_nil)))
            (pss_cons (ps_for PassesOwn.never rfl (RZ.pi_zipA (by rfl) mz (pa_cons (pv 2) (pa_cons (pv 5) pa_nil))) (pg_tup rfl (pgs_cons (pg_name (i := 7) scExtended.nd rfl (.inl rfl)) (pgs_cons (pg_name (i := 8) scExtended.nd rfl (.inl rfl)) pgs_nil)))
                (pss_one (ps_dput (hu_of hr) (pv 6) (pv 7) (pv 8) rfl)))
              (pss_one (ps_expr (pe_bm PySem.F.plainAttrs_list PySem.F.slot_list_append PySem.F.type_list_append mt_append (pv 3) (pa_cons (pv 6) pa_nil)))))) pss_nil)))))
      (pss_one (ps_ret (pv 3)))), ?_⟩
    refine ⟨Nat.zero_le _, fun G nG => ?_⟩
    have s0 : Same H (upd H G (.lst [])) := same_upd nG
    have mlen : (ds.map (·.2)).length = ds.length := List.length_map _
    have rlen : (L.map (·.2)).length = L.length := List.length_map _
    refine ⟨_, rfl, f, rfl, ⟨_, SqL.of (s0 _ _ hds.lst)⟩, for_list (xs := rV ds) (fun i σ H' => ∃ y4 y5 y6 y7 y8, σ = [some (.ref f), some (.ref a), some (.ref c), some (.ref G), y4, y5, y6, y7, y8] ∧ Same H H' ∧ ∃ es, DictsAt H' G es ∧ es.map (·.2) = extM ((ds.map (·.2)).take i) (L.map (·.2)) cs)
      ⟨none, none, none, none, none, rfl, s0, [], ⟨upd_same, fun p hp => by cases hp⟩, rfl⟩ (fun i σ H' _ ⟨_, _, _, _, _, _, s1, _⟩ => SqL.of (s1 _ _ hds.lst)) ?_ ?_⟩
    · rintro i x σ H1 hx ⟨y4, y5, y6, y7, y8, rfl, s1, es1, D1, e1⟩
      obtain ⟨p, hp, rfl⟩ := rV_get hx
      have mp : p ∈ ds := List.mem_of_getElem? hp
      have hp2 : (ds.map (·.2))[i]? = some p.2 := by
        rw [List.getElem?_map, hp]
        rfl
      obtain ⟨im, lm⟩ := hG p.2 (List.mem_map.mpr ⟨p, mp, rfl⟩)
      refine ⟨_, rfl, a, rfl, ⟨_, SqT.of (s1 _ _ hT.tab)⟩, for_tup (xs := rV L) (fun j σ H' => ∃ y5 y6 y7 y8, σ = [some (.ref f), some (.ref a), some (.ref c), some (.ref G), some (.ref p.1), y5, y6, y7, y8] ∧ Same H H' ∧ ∃ es, DictsAt H' G es ∧ es.map (·.2) = extM ((ds.map (·.2)).take i) (L.map (·.2)) cs ++ fitM p.2 ((L.map (·.2)).take j) cs)
        ⟨y5, y6, y7, y8, rfl, s1, es1, D1, by rw [e1]; exact (List.append_nil _).symm⟩ (fun j σ H' _ ⟨_, _, _, _, _, s2, _⟩ => SqT.of (s2 _ _ hT.tab)) ?_ ?_⟩
      · rintro j x2 σ H2 hx2 ⟨y5, y6, y7, y8, rfl, s2, es2, D2, e2⟩
        obtain ⟨z, hz, rfl⟩ := rV_get hx2
        have mz : z ∈ L := List.mem_of_getElem? hz
        have hz2 : (L.map (·.2))[j]? = some z.2 := by
          rw [List.getElem?_map, hz]
          rfl
        have wz := hw z mz
        have zlen : (cs.zip z.2).length = cs.length := by
          rw [List.length_zip, wz, Nat.min_self]
        have l1 : (iV cs).length = cs.length := iV_length cs
        have l2 : (iV z.2).length = cs.length := by rw [iV_length, wz]
        -- the t-th pair
        have pair : ∀ (t : Nat) (x1 x2 : V), (iV cs)[t]? = some x1 → (iV z.2)[t]? = some x2 → ∃ ct vt : Int, x1 = .int ct ∧ x2 = .int vt ∧ (cs.zip z.2)[t]? = some (ct, vt) := fun t x1 x2 h1 h2 => by
          obtain ⟨ct, hc1, rfl⟩ := iV_get h1
          obtain ⟨vt, hv1, rfl⟩ := iV_get h2
          refine ⟨ct, vt, rfl, rfl, ?_⟩
          rw [List.getElem?_zip_eq_some]
          exact ⟨hc1, hv1⟩
        obtain ⟨fb, hfb⟩ : ∃ fb : Int × Int → Bool, fb = fun q => decide ((valV p.2 (.inl q.1)).getD (.int q.2) = .int q.2) := ⟨_, rfl⟩
        have okE : ((cs.zip z.2).map fb).all id = okM p.2 cs z.2 := by
          rw [List.all_map, hfb]
          rfl
        refine ⟨_, rfl, _, rfl, c, z.1, _, _, rfl, .inr ⟨SqT.of (s2 _ _ hc), SqT.of (s2 _ _ (hT.row z mz)), fun D nD => ?_⟩⟩
        refine lc_it (walk_zipT (xs := iV cs) (ys := iV z.2) l1 l2) (fun t H' => Same H2 H' ∧ H' D = some (.lst ((((cs.zip z.2).map fb).take t).map V.bl))) ⟨same_upd nD, upd_same⟩
          (fun t H' _ q => ⟨SqT.of ((s2.trans q.1) _ _ hc), SqT.of ((s2.trans q.1) _ _ (hT.row z mz))⟩) ?_ ?_
        · rintro t x H3 H4 ht ⟨s3, hD⟩ ⟨T, x1, x2, rfl, nT, rfl, h1, h2⟩
          obtain ⟨ct, vt, rfl, rfl, hpair⟩ := pair t x1 x2 h1 h2
          have s4 : Same H3 (upd H3 T (.tup [.int ct, .int vt])) := same_upd nT
          refine ⟨T, [.int ct, .int vt], rfl, SqT.of upd_same, rfl, .int ct, [.int vt], rfl, .int vt, [], rfl, rfl, rfl, yes_turn ?_⟩
          have hd : (upd H3 T (.tup [.int ct, .int vt])) p.1 = some (.dK p.2) := s4 _ _ (s3 _ _ (s2 _ _ (hds.at_ p mp)))
          refine ⟨_, rfl, p.1, rfl, .inl ⟨_, Rd.of hd⟩, _, rfl, _, rfl, _, DGet.k (k := Sum.inl ct) hd, _, rfl, ?_, ?_⟩
          · cases e : valV p.2 (Sum.inl ct) with
            | none => rfl
            | some v =>
              obtain ⟨n, rfl⟩ := im ct v e
              rfl
          · have hb : ((cs.zip z.2).map fb)[t]? = some (fb (ct, vt)) := by
              rw [List.getElem?_map, hpair]
              rfl
            refine ⟨_, s4 _ _ hD, ?_, same_grow (s3.trans s4) nD, ?_⟩
            · rw [List.length_map, List.length_take, List.length_map, zlen]
              exact small_of (Nat.le_trans (Nat.min_le_right _ _) hcs) (by decide)
            · rw [upd_same, take_snoc hb, List.map_append, hfb]
              rfl
        · rintro H3 ⟨s3, hD⟩
          have full : ((cs.zip z.2).map fb).take cs.length = (cs.zip z.2).map fb := List.take_of_length_le (by rw [List.length_map, zlen]; exact Nat.le_refl _)
          rw [full] at hD
          refine ⟨D, _, rfl, SqL.of hD, _, rfl, ?_⟩
          rw [okE]
          have s23 := s2.trans s3
          have D3 := D2.same s3
          refine ite2 (fun hok => ?_) (fun hok => ?_)
          · -- more = dict(values)
            refine ⟨_, rfl, p.1, p.2, rfl, Rd.of (s23 _ _ (hds.at_ p mp)), fun M nM => ?_⟩
            refine ⟨_, rfl, _, rfl, c, z.1, _, _, rfl, .inr ⟨SqT.of (same_upd nM _ _ (s23 _ _ hc)), SqT.of (same_upd nM _ _ (s23 _ _ (hT.row z mz))), ?_⟩⟩
            refine for_it (walk_zipT (xs := iV cs) (ys := iV z.2) l1 l2) (fun t σ H' => ∃ y7 y8, σ = [some (.ref f), some (.ref a), some (.ref c), some (.ref G), some (.ref p.1), some (.ref z.1), some (.ref M), y7, y8] ∧ Same H3 H' ∧ H' M = some (.dK (putM p.2 ((cs.zip z.2).take t))))
              ⟨y7, y8, rfl, same_upd nM, upd_same⟩ (fun t σ H' _ ⟨_, _, _, q, _⟩ => ⟨SqT.of ((s23.trans q) _ _ hc), SqT.of ((s23.trans q) _ _ (hT.row z mz))⟩) ?_ ?_
            · rintro t x σ H4 H5 ht ⟨y7, y8, rfl, s4, hM⟩ ⟨T, x1, x2, rfl, nT, rfl, h1, h2⟩
              obtain ⟨ct, vt, rfl, rfl, hpair⟩ := pair t x1 x2 h1 h2
              have s5 : Same H4 (upd H4 T (.tup [.int ct, .int vt])) := same_upd nT
              refine ⟨T, [.int ct, .int vt], rfl, SqT.of upd_same, rfl, .int ct, [.int vt], rfl, .int vt, [], rfl, rfl, ?_⟩
              refine ⟨_, rfl, _, rfl, _, rfl, M, _, rfl, DPut.k (k := Sum.inl ct) (s5 _ _ hM) ?_, some (.int ct), some (.int vt), rfl, same_grow (s4.trans s5) nM, ?_⟩
              · refine Nat.lt_of_le_of_lt (Nat.le_trans (putM_length _ _) ?_) (small1000 (n := 900) (by decide))
                rw [List.length_take, zlen]
                have := Nat.min_le_right t cs.length
                omega
              · rw [upd_same, take_snoc hpair, putM_snoc]
            · rintro σ H4 ⟨y7, y8, rfl, s4, hM⟩
              have full2 : (cs.zip z.2).take cs.length = cs.zip z.2 := List.take_of_length_le (by rw [zlen]; exact Nat.le_refl _)
              rw [full2] at hM
              have D4 := D3.same s4
              have elen : es2.length ≤ 900 := by
                have e3 := congrArg List.length e2
                have b1 := extM_length ((ds.map (·.2)).take i) (L.map (·.2)) cs
                have b2 := fitM_length p.2 ((L.map (·.2)).take j) cs
                rw [List.length_map, List.length_append] at e3
                rw [List.length_take, mlen, rlen] at b1
                rw [List.length_take, rlen] at b2
                have hi : i < ds.length := (List.getElem?_eq_some_iff.mp hp).1
                have b3 : (min i ds.length) * L.length + L.length ≤ ds.length * L.length := by
                  rw [Nat.min_eq_left (Nat.le_of_lt hi), ← Nat.succ_mul]
                  exact Nat.mul_le_mul_right _ hi
                have b4 := Nat.min_le_right j L.length
                omega
              refine ⟨_, rfl, .inl ⟨rfl, _, SqL.of D4.lst⟩, _, rfl, G, _, _, rfl, rfl, D4.lst, ?_, ?_⟩
              · rw [rV_length]
                exact small_of elen (by decide)
              · refine ⟨_, _, _, _, rfl, same_grow (s23.trans s4) nG, es2 ++ [(M, putM p.2 (cs.zip z.2))], D4.snoc hM, ?_⟩
                rw [List.map_append, e2, fitM_take hz2, if_pos hok, List.append_assoc]
                rfl
          · refine ⟨_, _, _, _, rfl, s23, es2, D3, ?_⟩
            rw [e2, fitM_take hz2, if_neg hok, List.append_nil]
      · rintro σ H2 ⟨y5, y6, y7, y8, rfl, s2, es2, D2, e2⟩
        refine ⟨_, _, _, _, _, rfl, s2, es2, D2, ?_⟩
        rw [e2, extM_take hp2, rV_length, ← rlen, List.take_length]
    · rintro σ H1 ⟨y4, y5, y6, y7, y8, rfl, s1, es1, D1, e1⟩
      rw [rV_length, ← mlen, List.take_length] at e1
      exact ⟨_, rfl, q H1 G es1 s1 nG D1 e1⟩
/-- tuple(x) of a list or a tuple -/
def rTupOf (K : PySem.W.Frag) : List V → Hp → VK → Prop := fun xs H Q => ∃ p ys, xs = [.ref p] ∧ ((SqL K H p ys ∧ ∀ l, H l = none → Q (.ref l) (upd H l (.tup ys))) ∨ (SqT K H p ys ∧ Q (.ref p) H))
/-- tuple(sorted(set(rows))) of a list of rows -/
theorem sorted_tail {H : Hp} {D : Addr} {ks : List (Addr × List Int)} {d : Nat} {Q : VK} (hD : H D = some (.lst (rV ks))) (hk : ∀ p ∈ ks, TupAt H p.1 p.2) (hd : 1 ≤ d) (hl : ∀ p ∈ ks, p.2.length = d) (few : ks.length < 64)
    (q : ∀ H' t L, Same H H' → H t = none → TabAt H' t L → (∀ r, r ∈ L.map (·.2) ↔ r ∈ ks.map (·.2)) → (L.map (·.2)).Nodup → L.length ≤ ks.length → Q (.ref t) H') :
    rSetOfT K P w [V.ref D] H fun x H1 => rSortT K P w [x] H1 fun y H2 => rTupOf K [y] H2 Q := by
  refine ⟨D, ks, rfl, SqL.of hD, fun z hz => SqT.of (hk z hz), few, fun S L1 nS sub all => ?_⟩
  have s1 : Same H (upd H S (SetTO P w S L1)) := same_upd nS
  refine ⟨S, L1, d, rfl, upd_same, fun z hz => SqT.of (s1 _ _ (hk z (sub z hz))), hd, fun z hz => hl z (sub z hz), fun L2 l pm nd few2 nl => ?_⟩
  refine ⟨l, _, rfl, .inl ⟨SqL.of upd_same, fun t nt => ?_⟩⟩
  have s2 : Same H (upd (upd H S (SetTO P w S L1)) l (.lst (rV L2))) := s1.trans (same_upd nl)
  have s3 : Same H (upd (upd (upd H S (SetTO P w S L1)) l (.lst (rV L2))) t (.tup (rV L2))) := s2.trans (same_upd nt)
  refine q _ t L2 s3 (s2.free nt) ⟨upd_same, fun z hz => s3 _ _ (hk z (sub z (pm.mem_iff.mp hz)))⟩ (fun r => ?_) nd ?_
  · rw [(pm.map (·.2)).mem_iff]
    constructor
    · intro h
      obtain ⟨z, hz, e⟩ := List.mem_map.mp h
      exact List.mem_map.mpr ⟨z, sub z hz, e⟩
    · intro h
      obtain ⟨z, hz, e⟩ := List.mem_map.mp h
      rw [← e]
      exact all z hz
  · rw [pm.length_eq]
    exact nodup_le (pm.nodup_iff.mp (nodup_of_map nd)) sub
/-- projections and parts, two by two -/
abbrev PP := (Addr × List (Addr × List Int)) × (Addr × List Int)
def plainQ (q : PP) : List (List Int) × List Int := (q.1.2.map (·.2), q.2.2)
structure PartsAt (H : Hp) (n : Nat) (j t : Addr) (qs : List PP) : Prop where
  lst : H j = some (.lst (qs.map fun q => V.ref q.1.1))
  tup : H t = some (.tup (qs.map fun q => V.ref q.2.1))
  tab : ∀ q ∈ qs, TabAt H q.1.1 q.1.2
  col : ∀ q ∈ qs, TupAt H q.2.1 q.2.2
  two : qs.length ≤ 2
  six : ∀ q ∈ qs, q.1.2.length ≤ 6
  sm : ∀ q ∈ qs, q.2.2.length ≤ 100
  inw : ∀ q ∈ qs, InW n q.2.2
  nd : ∀ q ∈ qs, q.2.2.Nodup
  len : ∀ q ∈ qs, ∀ r ∈ q.1.2, r.2.length = q.2.2.length
  cover : ∀ c : Int, 0 ≤ c → c < (n : Int) → ∃ q ∈ qs, c ∈ q.2.2
def spJoined : Sp := fun vs H Q _ => ∃ (n : Nat) (j t : Addr) (qs : List PP), vs = [.int n, .ref j, .ref t] ∧ PartsAt H n j t qs ∧ 1 ≤ n ∧ n ≤ 100 ∧
  ∀ H' p L, Same H H' → H p = none → TabAt H' p L → (∀ row, row ∈ L.map (·.2) ↔ row.length = n ∧ ∀ q ∈ qs.map plainQ, pick row q.2 ∈ q.1) → L.length ≤ 36 → Q (.ref p) H'
theorem ok_joined {f f1 f2 : Addr} {fd fd1 fd2 : FuncData} {k : Nat} (F : Fun K "joined" "joined" sJoined f fd) (F1 : Fun K "picked" "picked" sPicked f1 fd1) (b1 : Binds K fd1 ["row", "columns"] []) (m1 : mg "picked" = some (.ref f1))
    (F2 : Fun K "extended" "extended" sExtended f2 fd2) (b2 : Binds K fd2 ["found", "rows", "part"] []) (m2 : mg "extended" = some (.ref f2))
    (mt : mg "tuple" = none) (ms : mg "sorted" = none) (mS : mg "set" = none) (mL : mg "list" = none) (mr : mg "range" = none) (mz : mg "zip" = none) (mA : mg "all" = none) (mD : mg "dict" = none) : FnOk P w K mg base CX0 (k + 2) f fd ["width", "projections", "parts"] spJoined := by
  have G1 : FnOk P w K mg base CX0 (k + 1) f1 fd1 ["row", "columns"] spPickedD := ok_pickedD F1 mt
  have G2 : FnOk P w K mg base CX0 (k + 1) f2 fd2 ["found", "rows", "part"] spExtended := ok_extended F2 mz mA mD
  refine F.ok scJoined (fun vs H Q E h => ?_) (fun cdv A outer s H vs Q E hr h => ?_)
  · obtain ⟨n, j, t, qs, e, _⟩ := h
    rw [e]
    rfl
  · obtain ⟨n, j, t, qs, e, hP, hn1, hn, q⟩ := h
    subst e
    refine ⟨_, pss_cons (ps_set (i := 3) scJoined.nd rfl (.inl rfl) (pe_lst (pa_cons pe_dnewK pa_nil)))
      (pss_cons (ps_for PassesOwn.never rfl (pi_zipM (by rfl) mz (pa_cons (pv 1) (pa_cons (pv 2) pa_nil))) (pg_tup rfl (pgs_cons (pg_name (i := 4) scJoined.nd rfl (.inl rfl)) (pgs_cons (pg_name (i := 5) scJoined.nd rfl (.inl rfl)) pgs_nil)))
          (pss_one (ps_set (i := 3) scJoined.nd rfl (.inl rfl) (pe_call G2 hr (by rfl) m2 F2.kp b2 .nil pass0 (pa_cons (pv 3) (pa_cons (pv 4) (pa_cons (pv 5) pa_nil)))))))
      (pss_one (ps_ret (pe_callTy call_tuple_of (by rfl) mt (by decide +kernel) (pa_cons (pe_callB (cr_sortTany rfl) (by rfl) ms (by decide +kernel) (pa_cons (pe_callTy (cr_setOfT rfl hr.units) (by rfl) mS (by decide +kernel) (pa_cons
        (pe_lc (own := [("values", 6)]) (g := gName 6) (te := tCall spPickedD [] E0 (tCons (tVar 6) (tCons (tLstRg (tRg1 (tVar 0))) tNil))) rfl scJoined.nd (pi_list (pv 3)) (blkOk_by (N := nJoined) (sc := defScope sJoined) (by decide +kernel)) (fun _ _ _ _ _ => pg_name (i := 6) scJoined.nd rfl (Or.inl rfl)) (fun _ _ _ _ _ => pts_nil)
          (fun _ _ _ _ _ => pe_call G1 hr (by rfl) m1 F1.kp b1 .nil pass0 (pa_cons (pv 6) (pa_cons (pe_listRg rfl (by rfl) mL (prg_1 (by rfl) mr (pv 0))) pa_nil)))) pa_nil)) pa_nil)) pa_nil))))), ?_⟩
    -- found = [{}]
    refine fun d nd => ⟨by show 1 ≤ sizeLine; decide, fun g0 ng0 => ?_⟩
    have s0 : Same H (upd (upd H d (.dK [])) g0 (.lst [.ref d])) := (same_upd nd).trans (same_upd ng0)
    have D0 : DictsAt (upd (upd H d (.dK [])) g0 (.lst [.ref d])) g0 [(d, [])] := ⟨upd_same, fun p hp => by
      rw [List.mem_singleton.mp hp]
      exact same_upd ng0 _ _ upd_same⟩
    have lenL : (qs.map fun q => V.ref q.1.1).length = qs.length := List.length_map _
    have lenT : (qs.map fun q => V.ref q.2.1).length = qs.length := List.length_map _
    have lenP : (qs.map plainQ).length = qs.length := List.length_map _
    refine ⟨_, rfl, _, rfl, j, t, _, _, rfl, SqL.of (s0 _ _ hP.lst), SqT.of (s0 _ _ hP.tup), for_it (walk_zipM lenL lenT) (fun i σ H' => ∃ g y4 y5 y6, σ = [some (.int n), some (.ref j), some (.ref t), some (.ref g), y4, y5, y6] ∧ Same H H' ∧
        ∃ ds, DictsAt H' g ds ∧ ds.map (·.2) = joinM ((qs.map plainQ).take i) [[]] ∧ GoodM (100 * i) (ds.map (·.2)) ∧ ds.length ≤ 6 ^ i)
      ⟨g0, none, none, none, rfl, s0, [(d, [])], D0, rfl, fun m hm => ⟨by rw [List.mem_singleton.mp hm]; exact IntM.nil, by rw [List.mem_singleton.mp hm]; exact Nat.le_refl _⟩, Nat.le_refl _⟩
      (fun i σ H' _ ⟨_, _, _, _, _, s1, _⟩ => ⟨SqL.of (s1 _ _ hP.lst), SqT.of (s1 _ _ hP.tup)⟩) ?_ ?_⟩
    · rintro i x σ H1 H2 hi ⟨g, y4, y5, y6, rfl, s1, ds, D1, e1, G, dl⟩ ⟨T, x1, x2, rfl, nT, rfl, h1, h2⟩
      replace h1 : (qs.map fun q => V.ref q.1.1)[i]? = some x1 := h1
      replace h2 : (qs.map fun q => V.ref q.2.1)[i]? = some x2 := h2
      rw [List.getElem?_map] at h1 h2
      obtain ⟨q1, hq1, rfl⟩ := Option.map_eq_some_iff.mp h1
      obtain ⟨q2, hq2, rfl⟩ := Option.map_eq_some_iff.mp h2
      rw [hq1] at hq2
      obtain rfl := Option.some.inj hq2
      have mq : q1 ∈ qs := List.mem_of_getElem? hq1
      have hq3 : (qs.map plainQ)[i]? = some (plainQ q1) := by
        rw [List.getElem?_map, hq1]
        rfl
      have s2 : Same H1 (upd H1 T (.tup [.ref q1.1.1, .ref q1.2.1])) := same_upd nT
      have i1 : i ≤ 1 := by
        have := hP.two
        omega
      have p6 : 6 ^ i ≤ 6 := Nat.le_trans (Nat.pow_le_pow_right (by decide) i1) (Nat.le_refl _)
      refine ⟨T, _, rfl, SqT.of upd_same, rfl, .ref q1.1.1, [.ref q1.2.1], rfl, .ref q1.2.1, [], rfl, rfl, ?_⟩
      refine ⟨_, rfl, _, rfl, _, rfl, g, q1.1.1, q1.2.1, ds, q1.1.2, q1.2.2, 100 * i, rfl, D1.same s2, (hP.tab q1 mq).same (s1.trans s2), (s1.trans s2) _ _ (hP.col q1 mq), hP.len q1 mq, hP.sm q1 mq, G, ?_, ?_, fun H3 g2 es s3 ng2 D3 e3 => ?_⟩
      · have := hP.sm q1 mq
        omega
      · have z := Nat.mul_le_mul dl (hP.six q1 mq)
        omega
      · refine ⟨g2, _, _, _, rfl, (s1.trans s2).trans s3, es, D3, ?_, ?_, ?_⟩
        · rw [e3, e1, take_snoc hq3]
          unfold joinM
          rw [List.foldl_append]
          rfl
        · rw [e3]
          intro m hm
          obtain ⟨z1, z2⟩ := extM_good G m hm
          have := hP.sm q1 mq
          exact ⟨z1, by omega⟩
        · have z1 := congrArg List.length e3
          have z2 := extM_length (ds.map (·.2)) (q1.1.2.map (·.2)) q1.2.2
          rw [← e3, List.length_map, List.length_map, List.length_map] at z2
          have z3 := Nat.mul_le_mul dl (hP.six q1 mq)
          rw [Nat.pow_succ]
          omega
    · rintro σ H1 ⟨g, y4, y5, y6, rfl, s1, ds, D1, e1, G, dl⟩
      rw [← lenP, List.take_length] at e1
      have d36 : ds.length ≤ 36 := Nat.le_trans dl (Nat.le_trans (Nat.pow_le_pow_right (by decide) hP.two) (Nat.le_refl _))
      have hqs : ∀ z ∈ qs.map plainQ, z.2.Nodup ∧ ∀ r ∈ z.1, r.length = z.2.length := fun z hz => by
        obtain ⟨y, hy, rfl⟩ := List.mem_map.mp hz
        refine ⟨hP.nd y hy, fun r hr => ?_⟩
        obtain ⟨p, hp, rfl⟩ := List.mem_map.mp hr
        exact hP.len y hy p hp
      have cover : ∀ c : Int, 0 ≤ c → c < (n : Int) → ∃ z ∈ qs.map plainQ, c ∈ z.2 := fun c h0 h1 => by
        obtain ⟨y, hy, hc⟩ := hP.cover c h0 h1
        exact ⟨plainQ y, List.mem_map.mpr ⟨y, hy, rfl⟩, hc⟩
      have inw : ∀ z ∈ qs.map plainQ, InW n z.2 := fun z hz => by
        obtain ⟨y, hy, rfl⟩ := List.mem_map.mp hz
        exact hP.inw y hy
      refine ⟨_, rfl, g, rfl, ⟨_, SqL.of D1.lst⟩, fun D nD => lc_list (xs := rV ds) (fun i H' => Same H1 H' ∧ ∃ ks : List (Addr × List Int), H' D = some (.lst (rV ks)) ∧ ks.map (·.2) = (ds.take i).map (fun p => rowM n p.2) ∧ ∀ p ∈ ks, TupAt H' p.1 p.2)
        ⟨same_upd nD, [], upd_same, rfl, fun p hp => by cases hp⟩ (fun i H' _ p => SqL.of (p.1 _ _ D1.lst)) (fun i x H2 hx p => ?_) fun H2 p => ?_⟩
      · obtain ⟨s2, ks, hD, ek, hk⟩ := p
        obtain ⟨r, hr1, rfl⟩ := rV_get hx
        have mem : r ∈ ds := List.mem_of_getElem? hr1
        have klen : ks.length = min i ds.length := by
          have z := congrArg List.length ek
          rw [List.length_map, List.length_map, List.length_take] at z
          exact z
        have inJ : r.2 ∈ joinM (qs.map plainQ) [[]] := by
          rw [← e1]
          exact List.mem_map.mpr ⟨r, mem, rfl⟩
        refine ⟨rfl, yes_turn ?_⟩
        refine ⟨_, rfl, _, rfl, (n : Int), rfl, RgOk.of_le (by decide) (by omega) (by decide) (by omega), fun c nc => ?_⟩
        have s3 : Same H2 (upd H2 c (.lst (rgV 0 (n : Int)))) := same_upd nc
        have er : rgV 0 (n : Int) = iV ((List.range n).map fun (c : Nat) => (c : Int)) := by
          show _ = ((List.range n).map fun (c : Nat) => (c : Int)).map V.int
          unfold rgV
          rw [List.map_map, Int.sub_zero, Int.toNat_natCast]
          refine List.map_congr_left fun x _ => ?_
          show V.int (0 + (x : Int)) = V.int (x : Int)
          rw [Int.zero_add]
        rw [er] at s3 ⊢
        refine ⟨r.1, c, r.2, getM r.2, (List.range n).map fun (c : Nat) => (c : Int), rfl, s3 _ _ (s2 _ _ (D1.at_ r mem)), upd_same, fun m hm => ?_, by rw [List.length_map, List.length_range]; exact hn, fun H3 p s4 np tp => ?_⟩
        · obtain ⟨m0, hm0, rfl⟩ := List.mem_map.mp hm
          have := List.mem_range.mp hm0
          exact join_tells hqs cover inJ (by omega) (by omega)
        · have erow : ((List.range n).map fun (c : Nat) => (c : Int)).map (getM r.2) = rowM n r.2 := by
            rw [List.map_map]
            rfl
          rw [erow] at tp
          have s5 := s3.trans s4
          refine ⟨_, s5 _ _ hD, ?_, same_grow (s2.trans s5) nD, ks ++ [(p, rowM n r.2)], ?_, ?_, fun z hz => ?_⟩
          · rw [rV_length, klen]
            exact small_of (Nat.le_trans (Nat.min_le_right _ _) d36) (by decide)
          · rw [upd_same, rV_snoc]
          · rw [take_snoc hr1, List.map_append, List.map_append, ek]
            rfl
          · rcases List.mem_append.mp hz with y | y
            · exact tup_upd (s5 _ _ (hk z y)) (s5 _ _ hD)
            · rw [List.mem_singleton.mp y]
              exact tup_upd tp (s5 _ _ hD)
      · obtain ⟨s2, ks, hD, ek, hk⟩ := p
        rw [rV_length, List.take_length] at ek
        have klen : ks.length = ds.length := by
          have z := congrArg List.length ek
          rw [List.length_map, List.length_map] at z
          exact z
        have ek2 : ks.map (·.2) = (joinM (qs.map plainQ) [[]]).map (rowM n) := by
          rw [ek, ← e1, List.map_map]
          rfl
        refine sorted_tail (d := n) hD hk hn1 (fun p hp => ?_) (by omega) fun H3 p L s3 np T3 mem nd le => ?_
        · have z : p.2 ∈ ks.map (·.2) := List.mem_map.mpr ⟨p, hp, rfl⟩
          rw [ek2] at z
          exact ((join_rows inw hqs cover p.2).mp z).1
        · refine q H3 p L ((s1.trans s2).trans s3) ((s1.trans s2).free np) T3 (fun row => ?_) (by omega)
          rw [mem row, ek2]
          exact join_rows inw hqs cover row
end
end N22
set_option Elab.async false
set_option linter.all false
set_option maxRecDepth 100000
set_option maxHeartbeats 4000000
/-! joins_breach. -/
namespace N22
open PySem PySem.Spec PyProof.Rows L2
theorem filt_take {α : Type} {l : List α} {i : Nat} {x : α} (f : α → Bool) (h : l[i]? = some x) : (l.take (i + 1)).filter f = (l.take i).filter f ++ if f x = true then [x] else [] := by
  rw [take_snoc h, List.filter_append]
  by_cases z : f x = true
  · rw [if_pos z, List.filter_cons_of_pos z, List.filter_nil]
  · rw [if_neg z, List.filter_cons_of_neg z, List.filter_nil]
theorem filt_len {α : Type} (l : List α) (i : Nat) (f : α → Bool) {m : Nat} (h : l.length ≤ m) : ((l.take i).filter f).length ≤ m := by
  refine Nat.le_trans (List.length_filter_le _ _) ?_
  rw [List.length_take]
  exact Nat.le_trans (Nat.min_le_right _ _) h
theorem TabAt.updL {H : Hp} {a D : Addr} {L : List (Addr × List Int)} {xs : List V} {o : HO} (t : TabAt H a L) (hD : H D = some (.lst xs)) : TabAt (upd H D o) a L := by
  refine ⟨?_, fun p hp => tup_upd (t.row p hp) hD⟩
  rw [upd_ne (ne_of t.tab hD (by intro z; cases z))]
  exact t.tab
section
variable {P : Program} {w : World} {K : PySem.W.Frag} {mg : Str → Option Value} {base : Heap}
/-- a table of width n and parts that have all its columns -/
structure JAsk (H : Hp) (n : Nat) (a t : Addr) (L PT : List (Addr × List Int)) : Prop where
  tab : TabAt H a L
  parts : TabAt H t PT
  wide : ∀ p ∈ L, p.2.length = n
  six : L.length ≤ 6
  two : PT.length ≤ 2
  n1 : 1 ≤ n
  n100 : n ≤ 100
  ne : ∀ p ∈ PT, p.2 ≠ []
  inw : ∀ p ∈ PT, InW n p.2
  nd : ∀ p ∈ PT, p.2.Nodup
  sm : ∀ p ∈ PT, p.2.length ≤ 100
  cover : ∀ c : Int, 0 ≤ c → c < (n : Int) → ∃ p ∈ PT, c ∈ p.2
theorem JAsk.same {H H' : Hp} {n : Nat} {a t : Addr} {L PT : List (Addr × List Int)} (q : JAsk H n a t L PT) (s : Same H H') : JAsk H' n a t L PT :=
  ⟨q.tab.same s, q.parts.same s, q.wide, q.six, q.two, q.n1, q.n100, q.ne, q.inw, q.nd, q.sm, q.cover⟩
def spJoinsB : Sp := fun vs H Q _ => ∃ (n : Nat) (a t : Addr) (L PT : List (Addr × List Int)), vs = [.int n, .ref a, .ref t] ∧ JAsk H n a t L PT ∧
  ∀ v H', Same H H' → (v = .non ↔ Joins n (L.map (·.2)) (PT.map (·.2))) → Q v H'
theorem ok_joinsB {f f1 f2 f3 f4 f5 : Addr} {fd fd1 fd2 fd3 fd4 fd5 : FuncData} {k : Nat} (F : Fun K "joins_breach" "joins_breach" sJoinsBreach f fd) (F1 : Fun K "picked" "picked" sPicked f1 fd1) (b1 : Binds K fd1 ["row", "columns"] []) (m1 : mg "picked" = some (.ref f1))
    (F2 : Fun K "extended" "extended" sExtended f2 fd2) (b2 : Binds K fd2 ["found", "rows", "part"] []) (m2 : mg "extended" = some (.ref f2)) (F3 : Fun K "joined" "joined" sJoined f3 fd3) (b3 : Binds K fd3 ["width", "projections", "parts"] []) (m3 : mg "joined" = some (.ref f3))
    (F4 : Fun K "projected" "projected" sProjected f4 fd4) (b4 : Binds K fd4 ["rows", "columns"] []) (m4 : mg "projected" = some (.ref f4)) (F5 : Fun K "agree" "agree" sAgree f5 fd5) (b5 : Binds K fd5 ["one", "other", "columns"] []) (m5 : mg "agree" = some (.ref f5))
    (mt : mg "tuple" = none) (ms : mg "sorted" = none) (mS : mg "set" = none) (mL : mg "list" = none) (mr : mg "range" = none) (mz : mg "zip" = none) (mA : mg "all" = none) (mD : mg "dict" = none) (ml : mg "len" = none) : FnOk P w K mg base CX0 (k + 3) f fd ["width", "rows", "parts"] spJoinsB := by
  have G1 : FnOk P w K mg base CX0 (k + 2) f1 fd1 ["row", "columns"] spPicked := ok_picked F1 mt
  have G3 : FnOk P w K mg base CX0 (k + 2) f3 fd3 ["width", "projections", "parts"] spJoined := ok_joined F3 F1 b1 m1 F2 b2 m2 mt ms mS mL mr mz mA mD
  have G4 : FnOk P w K mg base CX0 (k + 2) f4 fd4 ["rows", "columns"] spProjected := ok_projected F4 F1 b1 m1 mt ms mS
  have G5 : FnOk P w K mg base CX0 (k + 2) f5 fd5 ["one", "other", "columns"] spAgree := ok_agree F5 F1 b1 m1 mt
  refine F.ok scJoinsBreach (fun vs H Q E h => ?_) (fun cdv A outer s H vs Q E hr h => ?_)
  · obtain ⟨n, a, t, L, PT, e, _⟩ := h
    rw [e]
    rfl
  · obtain ⟨n, a, t, L, PT, e, hJ, q⟩ := h
    subst e
    refine ⟨_, pss_cons (ps_set (i := 3) scJoinsBreach.nd rfl (.inr rfl) (pe_callTy (cr_setTT rfl hr.units) (by rfl) mS (by decide +kernel) (pa_cons (pv 1) pa_nil)))
      (pss_cons (ps_setLc (i := 4) (own := [("row", 9)]) (g := gName 9) (tt := tTest (tOp (rTin true K P w) (tVar 9) (tVar 3))) (te := tVar 9) rfl scJoinsBreach.nd rfl rfl (sw_true rfl rfl rfl (by decide +kernel))
          (pi_tup (pe_call G3 hr (by rfl) m3 F3.kp b3 .nil pass0 (pa_cons (pv 0) (pa_cons (pe_lc (own := [("part", 6)]) (g := gName 6) (te := tCall spProjected [] E0 (tCons (tVar 1) (tCons (tVar 6) tNil))) rfl scJoinsBreach.nd (pi_tup (pv 2)) (blkOk_by (N := nJoinsBreach) (sc := defScope sJoinsBreach) (by decide +kernel))
              (fun _ _ _ _ _ => pg_name (i := 6) scJoinsBreach.nd rfl (Or.inl rfl)) (fun _ _ _ _ _ => pts_nil) (fun _ _ _ _ _ => pe_call G4 hr (by rfl) m4 F4.kp b4 .nil pass0 (pa_cons (pv 1) (pa_cons (pv 6) pa_nil)))) (pa_cons (pv 2) pa_nil)))))
          (blkOk_by (N := nJoinsBreach) (sc := defScope sJoinsBreach) (by decide +kernel)) (fun _ _ _ _ _ => pg_name (i := 9) scJoinsBreach.nd rfl (Or.inl rfl)) (fun _ _ _ _ _ => pts_one (pt_cmpR (op_tnotin hr.units) (pv 9) (pv 3) (by rfl))) (fun _ _ _ _ _ => pv 9))
      (pss_cons (ps_if (pt_cmpR op_eq (pe_callB call_len_seq (by rfl) ml (by decide +kernel) (pa_cons (pv 4) pa_nil)) pe_int (nomark _)) (pss_one (ps_ret pe_non)) pss_nil)
      (pss_cons (ps_set (i := 5) scJoinsBreach.nd rfl (.inl rfl) (pe_tup pa_nil))
      (pss_cons (ps_for PassesOwn.never rfl (pi_tup (pv 2)) (pg_name (i := 6) scJoinsBreach.nd rfl (Or.inr rfl))
          (pss_cons (ps_set (i := 7) scJoinsBreach.nd rfl (.inr rfl) (pe_callTy (cr_setOfT rfl hr.units) (by rfl) mS (by decide +kernel) (pa_cons
              (pe_lc (own := [("row", 9)]) (g := gName 9) (te := tCall spPicked [] E0 (tCons (tVar 9) (tCons (tVar 6) tNil))) rfl scJoinsBreach.nd (pi_list (pv 4)) (blkOk_by (N := nJoinsBreach) (sc := defScope sJoinsBreach) (by decide +kernel))
                (fun _ _ _ _ _ => pg_name (i := 9) scJoinsBreach.nd rfl (Or.inl rfl)) (fun _ _ _ _ _ => pts_nil) (fun _ _ _ _ _ => pe_call G1 hr (by rfl) m1 F1.kp b1 .nil pass0 (pa_cons (pv 9) (pa_cons (pv 6) pa_nil)))) pa_nil)))
          (pss_cons (ps_set (i := 8) scJoinsBreach.nd rfl (.inr rfl) (pe_ix ix_list
              (pe_lc (own := [("row", 9)]) (g := gName 9) (tt := tTest (tOp (rTin false K P w) (tCall spPicked [] E0 (tCons (tVar 9) (tCons (tVar 6) tNil))) (tVar 7))) (te := tVar 9) rfl scJoinsBreach.nd (pi_tup (pv 1)) (blkOk_by (N := nJoinsBreach) (sc := defScope sJoinsBreach) (by decide +kernel))
                (fun _ _ _ _ _ => pg_name (i := 9) scJoinsBreach.nd rfl (Or.inl rfl)) (fun _ _ _ _ _ => pts_one (pt_cmpR (op_tin hr.units) (pe_call G1 hr (by rfl) m1 F1.kp b1 .nil pass0 (pa_cons (pv 9) (pa_cons (pv 6) pa_nil))) (pv 7) (by rfl))) (fun _ _ _ _ _ => pv 9))
              pe_int (fun _ _ => rfl)))
          (pss_cons (ps_setLc (i := 4) (own := [("row", 9)]) (g := gName 9) (tt := tB (tCall spAgree [] E0 (tCons (tVar 9) (tCons (tVar 8) (tCons (tVar 6) tNil))))) (te := tVar 9) rfl scJoinsBreach.nd rfl rfl (sw_true rfl rfl rfl (by decide +kernel)) (pi_list (pv 4))
              (blkOk_by (N := nJoinsBreach) (sc := defScope sJoinsBreach) (by decide +kernel)) (fun _ _ _ _ _ => pg_name (i := 9) scJoinsBreach.nd rfl (Or.inl rfl)) (fun _ _ _ _ _ => pts_one (pt_val (pe_call G5 hr (by rfl) m5 F5.kp b5 .nil pass0 (pa_cons (pv 9) (pa_cons (pv 8) (pa_cons (pv 6) pa_nil)))))) (fun _ _ _ _ _ => pv 9))
          (pss_one (ps_set (i := 5) scJoinsBreach.nd rfl (.inl rfl) (pe_op op_catA (pv 5) (pe_tup (pa_cons (pv 8) pa_nil)))))))))
      (pss_one (ps_ret (pv 5))))))), ?_⟩
    -- known = set(rows)
    refine ⟨_, rfl, a, L, rfl, SqT.of hJ.tab.tab, fun p hp => SqT.of (hJ.tab.row p hp), Nat.lt_of_le_of_lt hJ.six (by decide), fun S L1 nS sub all => ?_⟩
    have known : ∀ x : List Int, x ∈ L1.map (·.2) ↔ x ∈ L.map (·.2) := fun x => by
      constructor
      · intro h
        obtain ⟨z, hz, e⟩ := List.mem_map.mp h
        exact List.mem_map.mpr ⟨z, sub z hz, e⟩
      · intro h
        obtain ⟨z, hz, e⟩ := List.mem_map.mp h
        rw [← e]
        exact all z hz
    have s0 : Same H (upd H S (SetTO P w S L1)) := same_upd nS
    have hS0 : (upd H S (SetTO P w S L1)) S = some (SetTO P w S L1) := upd_same
    -- the projections
    refine ⟨_, rfl, _, rfl, t, rfl, ⟨_, SqT.of (s0 _ _ hJ.parts.tab)⟩, fun D nD => ?_⟩
    refine lc_tup (xs := rV PT) (fun i H' => Same (upd H S (SetTO P w S L1)) H' ∧ ∃ qs : List PP, H' D = some (.lst (qs.map fun q => V.ref q.1.1)) ∧ qs.map (·.2) = PT.take i ∧
        ∀ q ∈ qs, TabAt H' q.1.1 q.1.2 ∧ (∀ r, r ∈ q.1.2.map (·.2) ↔ ∃ p ∈ L, pick p.2 q.2.2 = r) ∧ q.1.2.length ≤ L.length)
      ⟨same_upd nD, [], upd_same, rfl, fun q hq => by cases hq⟩ (fun i H' _ p => SqT.of ((s0.trans p.1) _ _ hJ.parts.tab)) (fun i x H1 hx p => ?_) fun H1 p => ?_
    · obtain ⟨s1, qs, hD, eq1, hq1⟩ := p
      obtain ⟨z, hz, rfl⟩ := rV_get hx
      have mz : z ∈ PT := List.mem_of_getElem? hz
      have J1 := hJ.same (s0.trans s1)
      have qlen : qs.length ≤ 2 := by
        have e := congrArg List.length eq1
        rw [List.length_map, List.length_take] at e
        have := Nat.min_le_right i PT.length
        have := hJ.two
        omega
      refine ⟨rfl, yes_turn ?_⟩
      refine ⟨_, rfl, _, rfl, a, z.1, L, z.2, rfl, J1.tab, J1.parts.row z mz, hJ.ne z mz, fun p hp => by rw [hJ.wide p hp]; exact hJ.inw z mz, hJ.sm z mz, Nat.lt_of_le_of_lt hJ.six (by decide), fun H2 p L2 s2 np T2 mem2 le2 => ?_⟩
      refine ⟨_, s2 _ _ hD, ?_, same_grow (s1.trans s2) nD, qs ++ [((p, L2), z)], ?_, ?_, fun y hy => ?_⟩
      · rw [List.length_map]
        exact small_of qlen (by decide)
      · rw [upd_same, List.map_append]
        rfl
      · rw [List.map_append, eq1, take_snoc hz]
        rfl
      · rcases List.mem_append.mp hy with c | c
        · obtain ⟨w1, w2, w3⟩ := hq1 y c
          exact ⟨(w1.same s2).updL (s2 _ _ hD), w2, w3⟩
        · rw [List.mem_singleton.mp c]
          exact ⟨T2.updL (s2 _ _ hD), mem2, le2⟩
    obtain ⟨s1, qs, hD, eq1, hq1⟩ := p
    rw [rV_length, List.take_length] at eq1
    have J1 := hJ.same (s0.trans s1)
    have inPT : ∀ y ∈ qs, y.2 ∈ PT := fun y hy => by
      rw [← eq1]
      exact List.mem_map.mpr ⟨y, hy, rfl⟩
    have ofPT : ∀ z ∈ PT, ∃ y ∈ qs, y.2 = z := fun z hz => by
      rw [← eq1] at hz
      exact List.mem_map.mp hz
    have eT : rV PT = qs.map fun q => V.ref q.2.1 := by
      show PT.map _ = _
      rw [← eq1, List.map_map]
      rfl
    have PA : PartsAt H1 n D t qs := by
      refine ⟨hD, ?_, fun y hy => (hq1 y hy).1, fun y hy => J1.parts.row y.2 (inPT y hy), ?_, fun y hy => Nat.le_trans (hq1 y hy).2.2 hJ.six, fun y hy => hJ.sm y.2 (inPT y hy), fun y hy => hJ.inw y.2 (inPT y hy), fun y hy => hJ.nd y.2 (inPT y hy), fun y hy r hr => ?_, fun c h0 h1 => ?_⟩
      · rw [← eT]
        exact J1.parts.tab
      · have e := congrArg List.length eq1
        rw [List.length_map] at e
        rw [e]
        exact hJ.two
      · obtain ⟨p, hp, e⟩ := ((hq1 y hy).2.1 r.2).mp (List.mem_map.mpr ⟨r, hr, rfl⟩)
        rw [← e, pick_length]
      · obtain ⟨z, hz, hc⟩ := hJ.cover c h0 h1
        obtain ⟨y, hy, e⟩ := ofPT z hz
        exact ⟨y, hy, by rw [e]; exact hc⟩
    -- the join
    refine ⟨_, rfl, n, D, t, qs, rfl, PA, hJ.n1, hJ.n100, fun H2 jt LJ s2 njt TJ memJ len36 => ?_⟩
    have joinMem : ∀ row : List Int, row ∈ LJ.map (·.2) ↔ row.length = n ∧ ∀ p ∈ PT.map (·.2), ∃ r ∈ L.map (·.2), pick r p = pick row p := fun row => by
      rw [memJ row]
      constructor
      · rintro ⟨h1, h2⟩
        refine ⟨h1, fun p hp => ?_⟩
        obtain ⟨z, hz, rfl⟩ := List.mem_map.mp hp
        obtain ⟨y, hy, rfl⟩ := ofPT z hz
        obtain ⟨r, hr, e⟩ := ((hq1 y hy).2.1 _).mp (h2 (plainQ y) (List.mem_map.mpr ⟨y, hy, rfl⟩))
        exact ⟨r.2, List.mem_map.mpr ⟨r, hr, rfl⟩, e⟩
      · rintro ⟨h1, h2⟩
        refine ⟨h1, fun y0 hy0 => ?_⟩
        obtain ⟨y, hy, rfl⟩ := List.mem_map.mp hy0
        obtain ⟨r, hr, e⟩ := h2 y.2.2 (List.mem_map.mpr ⟨y.2, inPT y hy, rfl⟩)
        obtain ⟨p, hp, rfl⟩ := List.mem_map.mp hr
        exact ((hq1 y hy).2.1 _).mpr ⟨p, hp, e⟩
    have s02 := (s0.trans s1).trans s2
    have hS2 : H2 S = some (SetTO P w S L1) := (s1.trans s2) _ _ hS0
    -- missing
    obtain ⟨fm, hfm⟩ : ∃ fm : Addr × List Int → Bool, fm = fun p => !decide (p.2 ∈ L.map (·.2)) := ⟨_, rfl⟩
    refine ⟨jt, rfl, ⟨_, SqT.of TJ.tab⟩, fun D2 nD2 => ?_⟩
    refine lc_tup (xs := rV LJ) (fun i H' => Same H2 H' ∧ H' D2 = some (.lst (rV ((LJ.take i).filter fm)))) ⟨same_upd nD2, upd_same⟩ (fun i H' _ p => SqT.of (p.1 _ _ TJ.tab)) (fun i x H3 hx p => ?_) fun H3 p => ?_
    · obtain ⟨s3, hD2⟩ := p
      obtain ⟨z, hz, rfl⟩ := rV_get hx
      have mz : z ∈ LJ := List.mem_of_getElem? hz
      refine ⟨rfl, ⟨_, rfl, _, rfl, z.1, S, z.2, L1, rfl, rfl, SqT.of (s3 _ _ (TJ.row z mz)), s3 _ _ hS2, fun y hy => SqT.of ((s02.trans s3) _ _ (hJ.tab.row y (sub y hy))), _, rfl, ?_⟩⟩
      have efm : (true ^^ decide (z.2 ∈ L1.map (·.2))) = fm z := by
        rw [Bool.true_xor, hfm]
        show (!decide _) = !decide _
        rw [decide_eq_decide.mpr (known z.2)]
      rw [efm]
      refine ite2 (fun h => ?_) (fun h => ?_)
      · refine ⟨_, rfl, _, hD2, ?_, same_grow s3 nD2, ?_⟩
        · rw [rV_length]
          exact small_of (filt_len LJ i fm len36) (by decide)
        · rw [upd_same, filt_take fm hz, if_pos h, rV_snoc]
      · refine ⟨s3, ?_⟩
        rw [filt_take fm hz, if_neg h, List.append_nil]
        exact hD2
    obtain ⟨s3, hD2⟩ := p
    rw [rV_length, List.take_length] at hD2
    have s03 := s02.trans s3
    have J3 := hJ.same s03
    -- if len(missing) == 0
    refine ⟨_, rfl, D2, _, rfl, .inl (SqL.of hD2), rfl, _, rfl, ite2 (fun e => ?_) (fun e => ?_)⟩
    · have e0 : ((rV (LJ.filter fm)).length : Int) = 0 := V.int.inj (of_decide_eq_true e)
      have none_ : LJ.filter fm = [] := by
        rw [rV_length] at e0
        exact List.length_eq_zero_iff.mp (by omega)
      refine q .non H3 s03 ⟨fun _ row hrow hp => ?_, fun _ => rfl⟩
      obtain ⟨z, hz, e2⟩ := List.mem_map.mp ((joinMem row).mpr ⟨hrow, hp⟩)
      refine Classical.byContradiction fun no => ?_
      have mem : z ∈ LJ.filter fm := List.mem_filter.mpr ⟨hz, by rw [hfm]; show (!decide (z.2 ∈ L.map (·.2))) = true; rw [e2, decide_eq_false no]; rfl⟩
      rw [none_] at mem
      cases mem
    · have some_ : LJ.filter fm ≠ [] := fun z => e (by rw [z]; rfl)
      -- the join dependency does not hold
      have broken : ¬ Joins n (L.map (·.2)) (PT.map (·.2)) := fun J => by
        obtain ⟨z, l, e2⟩ := List.exists_cons_of_ne_nil some_
        have mem : z ∈ LJ.filter fm := by
          rw [e2]
          exact List.mem_cons_self
        obtain ⟨mz, hf⟩ := List.mem_filter.mp mem
        obtain ⟨h1, h2⟩ := (joinMem z.2).mp (List.mem_map.mpr ⟨z, mz, rfl⟩)
        rw [hfm] at hf
        have hf2 : (!decide (z.2 ∈ L.map (·.2))) = true := hf
        rw [decide_eq_true (J z.2 h1 h2)] at hf2
        cases hf2
      -- chosen = ()
      refine ⟨Nat.zero_le _, fun C nC => ?_⟩
      have s4 : Same H3 (upd H3 C (.tup [])) := same_upd nC
      refine ⟨_, rfl, t, rfl, ⟨_, SqT.of (s4 _ _ J3.parts.tab)⟩, for_tup (xs := rV PT) (fun i σ H' => ∃ (C M : Addr) (y6 y7 y8 y9 : Option V) (ms : List (Addr × List Int)) (xs : List V), σ = [some (.int n), some (.ref a), some (.ref t), some (.ref S), some (.ref M), some (.ref C), y6, y7, y8, y9] ∧
          Same H3 H' ∧ H' M = some (.lst (rV ms)) ∧ ms ≠ [] ∧ (∀ m ∈ ms, m ∈ LJ) ∧ ms.length ≤ 36 ∧ H' C = some (.tup xs) ∧ xs.length ≤ i)
        ⟨C, D2, none, none, none, none, LJ.filter fm, [], rfl, s4, s4 _ _ hD2, some_, fun m hm => (List.mem_filter.mp hm).1, Nat.le_trans (List.length_filter_le _ _) len36, upd_same, Nat.le_refl _⟩
        (fun i σ H' _ ⟨_, _, _, _, _, _, _, _, _, s5, _⟩ => SqT.of (s5 _ _ J3.parts.tab)) ?_ ?_⟩
      · rintro i x σ H4 hx ⟨C, M, y6, y7, y8, y9, ms, xs, rfl, s5, hM, hne, hms, m36, hC, hxs⟩
        obtain ⟨z, hz, rfl⟩ := rV_get hx
        have mz : z ∈ PT := List.mem_of_getElem? hz
        have i2 : i ≤ 2 := by
          have := (List.getElem?_eq_some_iff.mp hz).1
          have := hJ.two
          omega
        have J4 := J3.same s5
        have s24 := s3.trans s5
        -- the rows of the join that are left
        have row4 : ∀ m ∈ ms, TupAt H4 m.1 m.2 ∧ m.2.length = n ∧ ∃ r ∈ L, pick r.2 z.2 = pick m.2 z.2 := fun m hm => by
          have mJ := hms m hm
          obtain ⟨h1, h2⟩ := (joinMem m.2).mp (List.mem_map.mpr ⟨m, mJ, rfl⟩)
          obtain ⟨r, hr, e2⟩ := h2 z.2 (List.mem_map.mpr ⟨z, mz, rfl⟩)
          obtain ⟨p, hp, rfl⟩ := List.mem_map.mp hr
          exact ⟨s24 _ _ (TJ.row m mJ), h1, p, hp, e2⟩
        have tz := J4.parts.row z mz
        have iz := hJ.inw z mz
        have lz := hJ.sm z mz
        -- told
        refine ⟨_, rfl, M, rfl, ⟨_, SqL.of hM⟩, fun D5 nD5 => ?_⟩
        refine lc_list (xs := rV ms) (fun i H' => Same H4 H' ∧ ∃ ks : List (Addr × List Int), H' D5 = some (.lst (rV ks)) ∧ ks.map (·.2) = (ms.take i).map (fun m => pick m.2 z.2) ∧ ∀ p ∈ ks, TupAt H' p.1 p.2)
          ⟨same_upd nD5, [], upd_same, rfl, fun p hp => by cases hp⟩ (fun i H' _ p => SqL.of (p.1 _ _ hM)) (fun j x H5 hx5 p => ?_) fun H5 p => ?_
        · obtain ⟨s6, ks, hD5, ek, hk⟩ := p
          obtain ⟨m, hm1, rfl⟩ := rV_get hx5
          have mm : m ∈ ms := List.mem_of_getElem? hm1
          obtain ⟨tm, lm, _⟩ := row4 m mm
          have klen : ks.length = min j ms.length := by
            have z := congrArg List.length ek
            rw [List.length_map, List.length_map, List.length_take] at z
            exact z
          refine ⟨rfl, yes_turn ?_⟩
          refine ⟨_, rfl, _, rfl, m.1, z.1, m.2, z.2, rfl, s6 _ _ tm, s6 _ _ tz, by rw [lm]; exact iz, lz, fun H6 p s7 np tp => ?_⟩
          refine ⟨_, s7 _ _ hD5, ?_, same_grow (s6.trans s7) nD5, ks ++ [(p, pick m.2 z.2)], ?_, ?_, fun y hy => ?_⟩
          · rw [rV_length, klen]
            exact small_of (Nat.le_trans (Nat.min_le_right _ _) m36) (by decide)
          · rw [upd_same, rV_snoc]
          · rw [take_snoc hm1, List.map_append, List.map_append, ek]
            rfl
          · rcases List.mem_append.mp hy with c | c
            · exact tup_upd (s7 _ _ (hk y c)) (s7 _ _ hD5)
            · rw [List.mem_singleton.mp c]
              exact tup_upd tp (s7 _ _ hD5)
        obtain ⟨s6, ks, hD5, ek, hk⟩ := p
        rw [rV_length, List.take_length] at ek
        have klen : ks.length = ms.length := by
          have z := congrArg List.length ek
          rw [List.length_map, List.length_map] at z
          exact z
        refine ⟨D5, ks, rfl, SqL.of hD5, fun y hy => SqT.of (hk y hy), by omega, fun T LT nT subT allT => ?_⟩
        have s7 : Same H5 (upd H5 T (SetTO P w T LT)) := same_upd nT
        have hT7 : (upd H5 T (SetTO P w T LT)) T = some (SetTO P w T LT) := upd_same
        have told : ∀ x : List Int, x ∈ LT.map (·.2) ↔ ∃ m ∈ ms, pick m.2 z.2 = x := fun x => by
          constructor
          · intro h
            obtain ⟨y, hy, e2⟩ := List.mem_map.mp h
            have h2 : x ∈ ks.map (·.2) := List.mem_map.mpr ⟨y, subT y hy, e2⟩
            rw [ek] at h2
            exact List.mem_map.mp h2
          · intro h
            have h2 : x ∈ ks.map (·.2) := by
              rw [ek]
              exact List.mem_map.mpr h
            obtain ⟨y, hy, e2⟩ := List.mem_map.mp h2
            rw [← e2]
            exact allT y hy
        have s47 := s6.trans s7
        -- least
        obtain ⟨fl, hfl⟩ : ∃ fl : Addr × List Int → Bool, fl = fun p => decide (pick p.2 z.2 ∈ LT.map (·.2)) := ⟨_, rfl⟩
        refine ⟨_, rfl, a, rfl, ⟨_, SqT.of (s47 _ _ J4.tab.tab)⟩, fun D6 nD6 => ?_⟩
        refine lc_tup (xs := rV L) (fun i H' => Same (upd H5 T (SetTO P w T LT)) H' ∧ H' D6 = some (.lst (rV ((L.take i).filter fl)))) ⟨same_upd nD6, upd_same⟩ (fun i H' _ p => SqT.of ((s47.trans p.1) _ _ J4.tab.tab)) (fun j x H6 hx6 p => ?_) fun H6 p => ?_
        · obtain ⟨s8, hD6⟩ := p
          obtain ⟨y, hy, rfl⟩ := rV_get hx6
          have my : y ∈ L := List.mem_of_getElem? hy
          have J6 := J4.same (s47.trans s8)
          refine ⟨rfl, ?_⟩
          refine ⟨_, rfl, _, rfl, y.1, z.1, y.2, z.2, rfl, J6.tab.row y my, J6.parts.row z mz, by rw [hJ.wide y my]; exact iz, lz, fun H7 p s9 np tp => ?_⟩
          have s89 := s8.trans s9
          refine ⟨_, rfl, p, T, _, LT, rfl, rfl, SqT.of tp, s89 _ _ hT7, fun u hu => SqT.of ((s7.trans s89) _ _ (hk u (subT u hu))), _, rfl, ?_⟩
          have efl : (false ^^ decide (pick y.2 z.2 ∈ LT.map (·.2))) = fl y := by
            rw [Bool.false_xor, hfl]
          rw [efl]
          refine ite2 (fun h => ?_) (fun h => ?_)
          · refine ⟨_, rfl, _, s9 _ _ hD6, ?_, same_grow s89 nD6, ?_⟩
            · rw [rV_length]
              exact small_of (filt_len L j fl hJ.six) (by decide)
            · rw [upd_same, filt_take fl hy, if_pos h, rV_snoc]
          · refine ⟨s89, ?_⟩
            rw [filt_take fl hy, if_neg h, List.append_nil]
            exact s9 _ _ hD6
        obtain ⟨s8, hD6⟩ := p
        rw [rV_length, List.take_length] at hD6
        -- the first of them
        obtain ⟨least, restL, eL⟩ : ∃ p l, L.filter fl = p :: l := by
          refine List.exists_cons_of_ne_nil fun none_ => ?_
          obtain ⟨m0, l0, e2⟩ := List.exists_cons_of_ne_nil hne
          have mm : m0 ∈ ms := by
            rw [e2]
            exact List.mem_cons_self
          obtain ⟨_, _, r, hr, e3⟩ := row4 m0 mm
          have mem : r ∈ L.filter fl := List.mem_filter.mpr ⟨hr, by rw [hfl]; exact decide_eq_true ((told _).mpr ⟨m0, mm, e3.symm⟩)⟩
          rw [none_] at mem
          cases mem
        have inL : least ∈ L ∧ fl least = true := List.mem_filter.mp (by rw [eL]; exact List.mem_cons_self)
        have at0 : atI (rV (L.filter fl)) 0 = some (.ref least.1) := by
          rw [eL]
          exact atI_nat (j := 0) rfl
        refine ⟨D6, _, 0, _, rfl, rfl, SqL.of hD6, at0, ?_⟩
        have s48 := s47.trans s8
        have J8 := J4.same s48
        have hM8 := s48 _ _ hM
        -- missing, again
        obtain ⟨fg, hfg⟩ : ∃ fg : Addr × List Int → Bool, fg = fun m => decide (pick m.2 z.2 = pick least.2 z.2) := ⟨_, rfl⟩
        refine ⟨_, rfl, M, rfl, ⟨_, SqL.of hM8⟩, fun D7 nD7 => ?_⟩
        refine lc_list (xs := rV ms) (fun i H' => Same H6 H' ∧ H' D7 = some (.lst (rV ((ms.take i).filter fg)))) ⟨same_upd nD7, upd_same⟩ (fun i H' _ p => SqL.of (p.1 _ _ hM8)) (fun j x H7 hx7 p => ?_) fun H7 p => ?_
        · obtain ⟨s9, hD7⟩ := p
          obtain ⟨m, hm1, rfl⟩ := rV_get hx7
          have mm : m ∈ ms := List.mem_of_getElem? hm1
          obtain ⟨tm, lm, _⟩ := row4 m mm
          have J9 := J8.same s9
          refine ⟨rfl, ?_⟩
          refine ⟨_, rfl, _, rfl, _, rfl, m.1, least.1, z.1, m.2, least.2, z.2, rfl, (s48.trans s9) _ _ tm, J9.tab.row least inL.1, J9.parts.row z mz, by rw [lm]; exact iz, by rw [hJ.wide least inL.1]; exact iz, lz, fun H8 s10 => ⟨_, rfl, ?_⟩⟩
          have efg : decide (pick m.2 z.2 = pick least.2 z.2) = fg m := by rw [hfg]
          rw [efg]
          refine ite2 (fun h => ?_) (fun h => ?_)
          · refine ⟨_, rfl, _, s10 _ _ hD7, ?_, same_grow (s9.trans s10) nD7, ?_⟩
            · rw [rV_length]
              exact small_of (filt_len ms j fg m36) (by decide)
            · rw [upd_same, filt_take fg hm1, if_pos h, rV_snoc]
          · refine ⟨s9.trans s10, ?_⟩
            rw [filt_take fg hm1, if_neg h, List.append_nil]
            exact s10 _ _ hD7
        obtain ⟨s9, hD7⟩ := p
        rw [rV_length, List.take_length] at hD7
        have ne2 : ms.filter fg ≠ [] := fun none_ => by
          have h := inL.2
          rw [hfl] at h
          obtain ⟨m, mm, e2⟩ := (told _).mp (of_decide_eq_true h)
          have mem : m ∈ ms.filter fg := List.mem_filter.mpr ⟨mm, by rw [hfg]; exact decide_eq_true e2⟩
          rw [none_] at mem
          cases mem
        -- chosen = chosen + (least,)
        have s49 := s48.trans s9
        have hC9 := s49 _ _ hC
        refine ⟨_, rfl, _, rfl, by show 1 ≤ sizeLine; decide, fun t1 nt1 => ?_⟩
        have s10 : Same H7 (upd H7 t1 (.tup [.ref least.1])) := same_upd nt1
        have after : ∀ (C2 : Addr) (xs2 : List V) (H8 : Hp), Same (upd H7 t1 (.tup [.ref least.1])) H8 → H8 C2 = some (.tup xs2) → xs2.length ≤ i + 1 →
            Same H3 H8 ∧ H8 D7 = some (.lst (rV (ms.filter fg))) ∧ ms.filter fg ≠ [] ∧ (∀ m ∈ ms.filter fg, m ∈ LJ) ∧ (ms.filter fg).length ≤ 36 ∧ H8 C2 = some (.tup xs2) ∧ xs2.length ≤ i + 1 := fun C2 xs2 H8 s11 hC2 l2 =>
          ⟨(s5.trans s49).trans (s10.trans s11), (s10.trans s11) _ _ hD7, ne2, fun m hm => hms m (List.mem_filter.mp hm).1, Nat.le_trans (List.length_filter_le _ _) m36, hC2, l2⟩
        refine ⟨C, t1, xs, [.ref least.1], rfl, rfl, SqT.of (s10 _ _ hC9), SqT.of upd_same, ?_, fun e2 => ?_, fun _ e2 => ?_, fun _ _ p np => ?_⟩
        · refine Nat.le_trans (Nat.add_le_add_right hxs 1) (Nat.le_of_lt (small1000 ?_))
          omega
        · exact ⟨t1, D7, _, _, _, _, ms.filter fg, [.ref least.1], rfl, after t1 [.ref least.1] _ (Same.refl _) upd_same (by show 1 ≤ i + 1; omega)⟩
        · cases e2
        · refine ⟨p, D7, _, _, _, _, ms.filter fg, xs ++ [.ref least.1], rfl, ?_⟩
          exact after p (xs ++ [.ref least.1]) _ (same_upd np) upd_same (by rw [List.length_append]; exact Nat.add_le_add_right hxs 1)
      · rintro σ H4 ⟨C, M, y6, y7, y8, y9, ms, xs, rfl, s5, _⟩
        exact ⟨_, rfl, q _ H4 (s03.trans s5) ⟨fun z => (nomatch z), fun J => absurd J broken⟩⟩
end
end N22
set_option Elab.async false
set_option linter.all false
set_option maxRecDepth 100000
set_option maxHeartbeats 4000000
/-! least_breach, keeps. -/
namespace N22
open PySem PySem.Spec PyProof.Rows L2
inductive Dep where
  | settles (ls rs : List Int)
  | deals (ls rs : List Int)
  | joins (parts : List (List Int))
def DepHolds (n : Nat) (R : List (List Int)) : Dep → Prop
  | .settles ls rs => Settles R ls rs
  | .deals ls rs => Deals n R ls rs
  | .joins parts => Joins n R parts
/-- the dependency stands at d, of the i-th table, which is at tb and has the rows L of width n -/
def DepAt (H : Hp) (d : Addr) (i n : Nat) (tb : Addr) (L : List (Addr × List Int)) : Dep → Prop
  | .settles ls rs => ∃ l r, H d = some (.tup [.str "settles", .int i, .ref l, .ref r]) ∧ Asked H n tb l r L ls rs
  | .deals ls rs => ∃ l r, H d = some (.tup [.str "deals", .int i, .ref l, .ref r]) ∧ Asked H n tb l r L ls rs
  | .joins parts => ∃ t PT, H d = some (.tup [.str "joins", .int i, .ref t]) ∧ JAsk H n tb t L PT ∧ PT.map (·.2) = parts
theorem DepAt.same {H H' : Hp} {d : Addr} {i n : Nat} {tb : Addr} {L : List (Addr × List Int)} {dep : Dep} (q : DepAt H d i n tb L dep) (s : Same H H') : DepAt H' d i n tb L dep := by
  cases dep with
  | settles ls rs =>
    obtain ⟨l, r, h1, h2⟩ := q
    exact ⟨l, r, s _ _ h1, h2.same s⟩
  | deals ls rs =>
    obtain ⟨l, r, h1, h2⟩ := q
    exact ⟨l, r, s _ _ h1, h2.same s⟩
  | joins parts =>
    obtain ⟨t, PT, h1, h2, h3⟩ := q
    exact ⟨t, PT, s _ _ h1, h2.same s, h3⟩
structure StoreAt (H : Hp) (a : Addr) (T : List (Addr × List (Addr × List Int))) : Prop where
  tup : H a = some (.tup (rV T))
  tab : ∀ t ∈ T, TabAt H t.1 t.2
theorem StoreAt.same {H H' : Hp} {a : Addr} {T : List (Addr × List (Addr × List Int))} (q : StoreAt H a T) (s : Same H H') : StoreAt H' a T := ⟨s _ _ q.tup, fun t ht => (q.tab t ht).same s⟩
section
variable {P : Program} {w : World} {K : PySem.W.Frag} {mg : Str → Option Value} {base : Heap}
/-- what least_breach and keeps are asked -/
structure Ask (H : Hp) (sc st d : Addr) (ws : List Int) (T : List (Addr × List (Addr × List Int))) (i n : Nat) (tb : Addr) (L : List (Addr × List Int)) (dep : Dep) : Prop where
  sc : TupAt H sc ws
  st : StoreAt H st T
  tabI : T[i]? = some (tb, L)
  wid : ws[i]? = some (n : Int)
  dep : DepAt H d i n tb L dep
theorem Ask.same {H H' : Hp} {sc st d : Addr} {ws : List Int} {T : List (Addr × List (Addr × List Int))} {i n : Nat} {tb : Addr} {L : List (Addr × List Int)} {dep : Dep} (q : Ask H sc st d ws T i n tb L dep) (s : Same H H') : Ask H' sc st d ws T i n tb L dep :=
  ⟨s _ _ q.sc, q.st.same s, q.tabI, q.wid, q.dep.same s⟩
/-- where the defs stand, and that the built-ins are the built-in ones -/
structure Defs (K : PySem.W.Frag) (mg : Str → Option Value) : Prop where
  picked : ∃ f fd, Fun K "picked" "picked" sPicked f fd ∧ Binds K fd ["row", "columns"] [] ∧ mg "picked" = some (.ref f)
  projected : ∃ f fd, Fun K "projected" "projected" sProjected f fd ∧ Binds K fd ["rows", "columns"] [] ∧ mg "projected" = some (.ref f)
  extended : ∃ f fd, Fun K "extended" "extended" sExtended f fd ∧ Binds K fd ["found", "rows", "part"] [] ∧ mg "extended" = some (.ref f)
  joined : ∃ f fd, Fun K "joined" "joined" sJoined f fd ∧ Binds K fd ["width", "projections", "parts"] [] ∧ mg "joined" = some (.ref f)
  agree : ∃ f fd, Fun K "agree" "agree" sAgree f fd ∧ Binds K fd ["one", "other", "columns"] [] ∧ mg "agree" = some (.ref f)
  dealt : ∃ f fd, Fun K "dealt_row" "dealt_row" sDealtRow f fd ∧ Binds K fd ["one", "other", "left", "right"] [] ∧ mg "dealt_row" = some (.ref f)
  settlesB : ∃ f fd, Fun K "settles_breach" "settles_breach" sSettlesBreach f fd ∧ Binds K fd ["rows", "left", "right"] [] ∧ mg "settles_breach" = some (.ref f)
  dealsB : ∃ f fd, Fun K "deals_breach" "deals_breach" sDealsBreach f fd ∧ Binds K fd ["rows", "left", "right"] [] ∧ mg "deals_breach" = some (.ref f)
  joinsB : ∃ f fd, Fun K "joins_breach" "joins_breach" sJoinsBreach f fd ∧ Binds K fd ["width", "rows", "parts"] [] ∧ mg "joins_breach" = some (.ref f)
  least : ∃ f fd, Fun K "least_breach" "least_breach" sLeastBreach f fd ∧ Binds K fd ["scheme", "store", "dependency"] [] ∧ mg "least_breach" = some (.ref f)
  keeps : ∃ f fd, Fun K "keeps" "keeps" sKeeps f fd ∧ Binds K fd ["scheme", "store", "dependency"] [] ∧ mg "keeps" = some (.ref f)
  tuple_ : mg "tuple" = none
  sorted_ : mg "sorted" = none
  set_ : mg "set" = none
  list_ : mg "list" = none
  range_ : mg "range" = none
  zip_ : mg "zip" = none
  all_ : mg "all" = none
  dict_ : mg "dict" = none
  len_ : mg "len" = none
  int_ : mg "int" = none
def spLeast : Sp := fun vs H Q _ => ∃ (sc st d : Addr) (ws : List Int) (T : List (Addr × List (Addr × List Int))) (i n : Nat) (tb : Addr) (L : List (Addr × List Int)) (dep : Dep), vs = [.ref sc, .ref st, .ref d] ∧ Ask H sc st d ws T i n tb L dep ∧
  ∀ v H', Same H H' → (v = .non ↔ DepHolds n (L.map (·.2)) dep) → Q v H'
theorem str_ne {a b : Str} (h : ¬ a = b) : decide (V.str a = V.str b) = false := decide_eq_false fun e => h (V.str.inj e)
theorem ok_least {f : Addr} {fd : FuncData} {k : Nat} (F : Fun K "least_breach" "least_breach" sLeastBreach f fd) (T : Defs K mg) : FnOk P w K mg base CX0 (k + 4) f fd ["scheme", "store", "dependency"] spLeast := by
  obtain ⟨f1, fd1, F1, b1, m1⟩ := T.picked
  obtain ⟨f2, fd2, F2, b2, m2⟩ := T.extended
  obtain ⟨f3, fd3, F3, b3, m3⟩ := T.joined
  obtain ⟨f4, fd4, F4, b4, m4⟩ := T.projected
  obtain ⟨f5, fd5, F5, b5, m5⟩ := T.agree
  obtain ⟨f6, fd6, F6, b6, m6⟩ := T.dealt
  obtain ⟨f7, fd7, F7, b7, m7⟩ := T.settlesB
  obtain ⟨f8, fd8, F8, b8, m8⟩ := T.dealsB
  obtain ⟨f9, fd9, F9, b9, m9⟩ := T.joinsB
  have G7 : FnOk P w K mg base CX0 (k + 3) f7 fd7 ["rows", "left", "right"] spSettlesB := ok_settlesB F7 F1 b1 m1 F5 b5 m5 T.tuple_
  have G8 : FnOk P w K mg base CX0 (k + 3) f8 fd8 ["rows", "left", "right"] spDealsB := ok_dealsB F8 F1 b1 m1 F5 b5 m5 F6 b6 m6 T.tuple_ T.range_ T.len_ T.set_
  have G9 : FnOk P w K mg base CX0 (k + 3) f9 fd9 ["width", "rows", "parts"] spJoinsB := ok_joinsB F9 F1 b1 m1 F2 b2 m2 F3 b3 m3 F4 b4 m4 F5 b5 m5 T.tuple_ T.sorted_ T.set_ T.list_ T.range_ T.zip_ T.all_ T.dict_ T.len_
  refine F.ok scLeastBreach (fun vs H Q E h => ?_) (fun cdv A outer s H vs Q E hr h => ?_)
  · obtain ⟨sc, st, d, ws, T, i, n, tb, L, dep, e, _⟩ := h
    rw [e]
    rfl
  · obtain ⟨sc, st, d, ws, T, i, n, tb, L, dep, e, hA, q⟩ := h
    subst e
    refine ⟨_, pss_cons (ps_asg (pe_slice sl_tup (pv 2) po_none (po_some pe_int)) (pg_tup rfl (pgs_cons (pg_name (i := 3) scLeastBreach.nd rfl (.inl rfl)) (pgs_cons (pg_name (i := 4) scLeastBreach.nd rfl (.inl rfl)) pgs_nil))))
      (pss_cons (ps_set (i := 5) scLeastBreach.nd rfl (.inl rfl) (pe_ix ix_tup (pv 1) (pv 4) (fun _ _ => rfl)))
      (pss_cons (ps_if (pt_cmpR op_eq (pv 3) pe_str (nomark _)) (pss_one (ps_ret (pe_call G7 hr (by rfl) m7 F7.kp b7 .nil pass0 (pa_cons (pv 5) (pa_cons (pe_ix ix_tup (pv 2) pe_int (fun _ _ => rfl)) (pa_cons (pe_ix ix_tup (pv 2) pe_int (fun _ _ => rfl)) pa_nil)))))) pss_nil)
      (pss_cons (ps_if (pt_cmpR op_eq (pv 3) pe_str (nomark _)) (pss_one (ps_ret (pe_call G8 hr (by rfl) m8 F8.kp b8 .nil pass0 (pa_cons (pv 5) (pa_cons (pe_ix ix_tup (pv 2) pe_int (fun _ _ => rfl)) (pa_cons (pe_ix ix_tup (pv 2) pe_int (fun _ _ => rfl)) pa_nil)))))) pss_nil)
      (pss_cons (ps_if (pt_cmpR op_eq (pv 3) pe_str (nomark _)) (pss_one (ps_ret (pe_call G9 hr (by rfl) m9 F9.kp b9 .nil pass0 (pa_cons (pe_ix ix_tup (pv 0) (pv 4) (fun _ _ => rfl)) (pa_cons (pv 5) (pa_cons (pe_ix ix_tup (pv 2) pe_int (fun _ _ => rfl)) pa_nil)))))) pss_nil)
      (pss_one ps_never))))), ?_⟩
    have rowI : ∀ H', Same H H' → atI (rV T) (i : Int) = some (.ref tb) := fun H' s => atI_nat (j := i) (by
      show (T.map fun p => V.ref p.1)[i]? = _
      rw [List.getElem?_map, hA.tabI]
      rfl)
    have widI : atI (iV ws) (i : Int) = some (.int (n : Int)) := atI_nat (j := i) (by
      show (ws.map V.int)[i]? = _
      rw [List.getElem?_map, hA.wid]
      rfl)
    cases dep with
    | settles ls rs =>
      obtain ⟨l, r, hd, hq⟩ := hA.dep
      refine ⟨_, rfl, _, rfl, d, _, rfl, SqT.of hd, by show ¬ (HT.sIx 4 0 none = 0 ∧ HT.sIx 4 4 (some 2) = 4); decide, fun p np => ?_⟩
      have s1 := same_upd (o := .tup [.str "settles", .int (i : Int)]) np
      refine ⟨p, [.str "settles", .int (i : Int)], rfl, SqT.of upd_same, rfl, _, _, rfl, _, _, rfl, rfl, ?_⟩
      refine ⟨_, rfl, _, rfl, st, _, (i : Int), _, rfl, rfl, SqT.of (s1 _ _ hA.st.tup), rowI _ s1, ?_⟩
      refine ⟨_, rfl, rfl, _, rfl, ?_⟩
      rw [decide_eq_true rfl]
      refine iteT ?_
      refine ⟨_, rfl, _, rfl, d, _, 2, _, rfl, rfl, SqT.of (s1 _ _ hd), atI_nat (j := 2) rfl, _, rfl, d, _, 3, _, rfl, rfl, SqT.of (s1 _ _ hd), atI_nat (j := 3) rfl, ?_⟩
      exact ⟨n, tb, l, r, L, ls, rs, rfl, hq.same s1, fun v H' s2 hv => q v H' (s1.trans s2) hv⟩
    | deals ls rs =>
      obtain ⟨l, r, hd, hq⟩ := hA.dep
      refine ⟨_, rfl, _, rfl, d, _, rfl, SqT.of hd, by show ¬ (HT.sIx 4 0 none = 0 ∧ HT.sIx 4 4 (some 2) = 4); decide, fun p np => ?_⟩
      have s1 := same_upd (o := .tup [.str "deals", .int (i : Int)]) np
      refine ⟨p, [.str "deals", .int (i : Int)], rfl, SqT.of upd_same, rfl, _, _, rfl, _, _, rfl, rfl, ?_⟩
      refine ⟨_, rfl, _, rfl, st, _, (i : Int), _, rfl, rfl, SqT.of (s1 _ _ hA.st.tup), rowI _ s1, ?_⟩
      refine ⟨_, rfl, rfl, _, rfl, ?_⟩
      rw [str_ne (by decide +kernel)]
      refine iteF ?_
      refine ⟨_, rfl, rfl, _, rfl, ?_⟩
      rw [decide_eq_true rfl]
      refine iteT ?_
      refine ⟨_, rfl, _, rfl, d, _, 2, _, rfl, rfl, SqT.of (s1 _ _ hd), atI_nat (j := 2) rfl, _, rfl, d, _, 3, _, rfl, rfl, SqT.of (s1 _ _ hd), atI_nat (j := 3) rfl, ?_⟩
      exact ⟨n, tb, l, r, L, ls, rs, rfl, hq.same s1, fun v H' s2 hv => q v H' (s1.trans s2) hv⟩
    | joins parts =>
      obtain ⟨t, PT, hd, hq, ep⟩ := hA.dep
      refine ⟨_, rfl, _, rfl, d, _, rfl, SqT.of hd, by show ¬ (HT.sIx 3 0 none = 0 ∧ HT.sIx 3 3 (some 2) = 3); decide, fun p np => ?_⟩
      have s1 := same_upd (o := .tup [.str "joins", .int (i : Int)]) np
      refine ⟨p, [.str "joins", .int (i : Int)], rfl, SqT.of upd_same, rfl, _, _, rfl, _, _, rfl, rfl, ?_⟩
      refine ⟨_, rfl, _, rfl, st, _, (i : Int), _, rfl, rfl, SqT.of (s1 _ _ hA.st.tup), rowI _ s1, ?_⟩
      refine ⟨_, rfl, rfl, _, rfl, ?_⟩
      rw [str_ne (by decide +kernel)]
      refine iteF ?_
      refine ⟨_, rfl, rfl, _, rfl, ?_⟩
      rw [str_ne (by decide +kernel)]
      refine iteF ?_
      refine ⟨_, rfl, rfl, _, rfl, ?_⟩
      rw [decide_eq_true rfl]
      refine iteT ?_
      refine ⟨_, rfl, _, rfl, sc, _, (i : Int), _, rfl, rfl, SqT.of (s1 _ _ hA.sc), widI, _, rfl, _, rfl, d, _, 2, _, rfl, rfl, SqT.of (s1 _ _ hd), atI_nat (j := 2) rfl, ?_⟩
      refine ⟨n, tb, t, L, PT, rfl, hq.same s1, fun v H' s2 hv => q v H' (s1.trans s2) ?_⟩
      rw [ep] at hv
      exact hv
def spKeeps : Sp := fun vs H Q _ => ∃ (sc st d : Addr) (ws : List Int) (T : List (Addr × List (Addr × List Int))) (i n : Nat) (tb : Addr) (L : List (Addr × List Int)) (dep : Dep), vs = [.ref sc, .ref st, .ref d] ∧ Ask H sc st d ws T i n tb L dep ∧
  ∀ b H', Same H H' → (b = true ↔ DepHolds n (L.map (·.2)) dep) → Q (.bl b) H'
theorem ok_keeps {f : Addr} {fd : FuncData} {k : Nat} (F : Fun K "keeps" "keeps" sKeeps f fd) (T : Defs K mg) : FnOk P w K mg base CX0 (k + 5) f fd ["scheme", "store", "dependency"] spKeeps := by
  obtain ⟨f1, fd1, F1, b1, m1⟩ := T.least
  have G1 : FnOk P w K mg base CX0 (k + 4) f1 fd1 ["scheme", "store", "dependency"] spLeast := ok_least F1 T
  refine F.ok scKeeps (fun vs H Q E h => ?_) (fun cdv A outer s H vs Q E hr h => ?_)
  · obtain ⟨sc, st, d, ws, T, i, n, tb, L, dep, e, _⟩ := h
    rw [e]
    rfl
  · obtain ⟨sc, st, d, ws, T, i, n, tb, L, dep, e, hA, q⟩ := h
    subst e
    refine ⟨_, pss_one (ps_ret (pe_cmpR op_isN (pe_call G1 hr (by rfl) m1 F1.kp b1 .nil pass0 (pa_cons (pv 0) (pa_cons (pv 1) (pa_cons (pv 2) pa_nil)))) pe_non (nomark _))), ?_⟩
    refine ⟨_, rfl, _, rfl, _, rfl, sc, st, d, ws, T, i, n, tb, L, dep, rfl, hA, fun v H' s1 hv => ⟨rfl, q _ H' s1 ?_⟩⟩
    rw [decide_eq_true_eq]
    exact hv
end
end N22
set_option Elab.async false
set_option linter.all false
set_option maxRecDepth 100000
set_option maxHeartbeats 4000000
/-! _law_draws, _law_take, _law_cell. -/
namespace N22
open PySem PySem.Spec PyProof.Rows L2
/-- all but the draws is kept; the draws are ints, whatever they are -/
structure Ext (d : Addr) (H H' : Hp) : Prop where
  keep : ∀ b o, b ≠ d → H b = some o → H' b = some o
  draw : ∃ ds : List Int, H' d = some (.lst (iV ds))
theorem Ext.trans {d : Addr} {H H1 H2 : Hp} (a : Ext d H H1) (b : Ext d H1 H2) : Ext d H H2 := ⟨fun c o h e => b.keep c o h (a.keep c o h e), b.draw⟩
theorem Ext.then {d : Addr} {H H1 H2 : Hp} (a : Ext d H H1) (b : Same H1 H2) : Ext d H H2 := ⟨fun c o h e => b c o (a.keep c o h e), let ⟨ds, e⟩ := a.draw; ⟨ds, b _ _ e⟩⟩
theorem Ext.of {d : Addr} {H H1 : Hp} (h : ∃ ds : List Int, H d = some (.lst (iV ds))) (b : Same H H1) : Ext d H H1 := ⟨fun c o _ e => b c o e, let ⟨ds, e⟩ := h; ⟨ds, b _ _ e⟩⟩
theorem Ext.free {d : Addr} {H H1 : Hp} (a : Ext d H H1) (h : ∃ ds : List Int, H d = some (.lst (iV ds))) {p : Addr} (hp : H1 p = none) : H p = none := by
  cases e : H p with
  | none => rfl
  | some o =>
    by_cases z : p = d
    · obtain ⟨ds, q⟩ := a.draw
      rw [z, q] at hp
      cases hp
    · rw [a.keep p o z e] at hp
      cases hp
/-- what is no list of ints stands -/
theorem Ext.other {d : Addr} {H H1 : Hp} (a : Ext d H H1) (h : ∃ ds : List Int, H d = some (.lst (iV ds))) {b : Addr} {o : HO} (hb : H b = some o) (hn : ∀ xs, o ≠ .lst xs) : H1 b = some o := by
  obtain ⟨ds, e⟩ := h
  exact a.keep b o (ne_of hb e (hn _)) hb
theorem Ext.tup {d : Addr} {H H1 : Hp} (a : Ext d H H1) (h : ∃ ds : List Int, H d = some (.lst (iV ds))) {b : Addr} {xs : List V} (hb : H b = some (.tup xs)) : H1 b = some (.tup xs) := a.other h hb fun xs z => by cases z
/-- a new object that grows -/
theorem Ext.grow {d : Addr} {H H1 : Hp} {D : Addr} {o : HO} (a : Ext d H H1) (h : ∃ ds : List Int, H d = some (.lst (iV ds))) (nD : H D = none) : Ext d H (upd H1 D o) := by
  obtain ⟨ds, e⟩ := h
  have ne : d ≠ D := ne_of_none e nD
  refine ⟨fun b u hb q => ?_, ?_⟩
  · rw [upd_ne (ne_of_none q nD)]
    exact a.keep b u hb q
  · obtain ⟨es, q⟩ := a.draw
    exact ⟨es, by rw [upd_ne ne]; exact q⟩
/-- the script: a frozen list, or one of the module's own -/
def ScrAt (K : PySem.W.Frag) (H : Hp) (a : Addr) (xs : List V) : Prop := (∃ o, H a = some (.frz o (.lst xs))) ∨ ∀ H', SqL K H' a xs
theorem ScrAt.sq {K : PySem.W.Frag} {H : Hp} {a : Addr} {xs : List V} (h : ScrAt K H a xs) : SqL K H a xs := by
  rcases h with ⟨o, h⟩ | h
  · exact .inl (.inr ⟨o, h⟩)
  · exact h H
theorem ScrAt.same {K : PySem.W.Frag} {H H' : Hp} {a : Addr} {xs : List V} (h : ScrAt K H a xs) (s : Same H H') : ScrAt K H' a xs := by
  rcases h with ⟨o, h⟩ | h
  · exact .inl ⟨o, s _ _ h⟩
  · exact .inr h
theorem ScrAt.ext {K : PySem.W.Frag} {H H' : Hp} {d a : Addr} {xs : List V} (h : ScrAt K H a xs) (hd : ∃ ds : List Int, H d = some (.lst (iV ds))) (s : Ext d H H') : ScrAt K H' a xs := by
  rcases h with ⟨o, h⟩ | h
  · exact .inl ⟨o, s.other hd h fun xs z => by cases z⟩
  · exact .inr h
theorem ScrAt.of {K : PySem.W.Frag} {H : Hp} {a : Addr} {xs : List V} (o : Only H) (h : SqL K H a xs) : ScrAt K H a xs := by
  rcases h with (h | ⟨u, h⟩) | h
  · rcases o a with z | ⟨u, ys, z⟩
    · rw [z] at h
      cases h
    · rw [z] at h
      cases h
  · exact .inl ⟨u, h⟩
  · exact .inr fun H' => .inr h
theorem iV_drop (l : List Int) : (iV l).dropLast = iV l.dropLast := by
  show (l.map V.int).dropLast = l.dropLast.map V.int
  rw [List.map_dropLast]
theorem iV_set (l : List Int) (i : Nat) (x : Int) : (iV l).set i (.int x) = iV (l.set i x) := by
  show (l.map V.int).set i (.int x) = (l.set i x).map V.int
  rw [List.map_set]
theorem ixN_of {n i : Nat} (h : i < n) : ixN n (i : Int) = some i := by
  unfold ixN
  rw [if_pos (by omega), if_pos (by omega), Int.toNat_natCast]
section
variable {P : Program} {w : World} {K : PySem.W.Frag} {mg : Str → Option Value} {base : Heap}
def spTake : Sp := fun vs H Q _ => ∃ (d : Addr) (m : Int) (ds : List Int), vs = [.ref d, .int m] ∧ 0 < m ∧ H d = some (.lst (iV ds)) ∧ ∀ x H', Ext d H H' → 0 ≤ x → x < m → Q (.int x) H'
theorem ok_take {f : Addr} {fd : FuncData} {k : Nat} (F : Fun K "_law_take" "_law_take" sTake f fd) (ml : mg "len" = none) (mi : mg "int" = none) : FnOk P w K mg base CX0 (k + 1) f fd ["_law_draws_here", "_law_many"] spTake := by
  refine F.ok scTake (fun vs H Q E h => ?_) (fun cdv A outer s H vs Q E hr h => ?_)
  · obtain ⟨d, m, ds, e, _⟩ := h
    rw [e]
    rfl
  · obtain ⟨d, m, ds, e, hm, hd, q⟩ := h
    subst e
    refine ⟨_, pss_cons (ps_if (pt_cmpR op_eq (pe_callB call_len_seq (by rfl) ml (by decide +kernel) (pa_cons (pv 0) pa_nil)) pe_int (nomark _)) (pss_one (ps_ret pe_int)) pss_nil)
      (pss_one (ps_ret (pe_op op_mod (pe_callTy call_int1 (by rfl) mi (by decide +kernel) (pa_cons (pe_bm0 PySem.F.plainAttrs_list PySem.F.slot_list_pop PySem.F.type_list_pop mt_pop (pv 0)) pa_nil)) (pv 1)))), ?_⟩
    refine ⟨_, rfl, d, _, rfl, .inl (SqL.of hd), rfl, _, rfl, ite2 (fun e => ?_) (fun e => ?_)⟩
    · exact q 0 H (.of ⟨ds, hd⟩ (Same.refl H)) (Int.le_refl 0) hm
    · have ne : ds ≠ [] := fun z => e (by rw [z]; rfl)
      have last : (iV ds)[(iV ds).length - 1]? = some (.int (ds.getLast ne)) := by
        rw [iV_length, List.getElem?_map, ← List.getLast?_eq_getElem?, List.getLast?_eq_getLast ne]
        rfl
      refine ⟨_, rfl, .inl ⟨rfl, _, SqL.of hd⟩, d, _, _, rfl, rfl, hd, last, .inl ⟨_, rfl, ?_⟩⟩
      refine ⟨_, rfl, _, m, rfl, rfl, hm, q _ _ ⟨fun b o hb z => by rw [upd_ne hb]; exact z, ds.dropLast, by rw [upd_same, iV_drop]⟩ (Int.emod_nonneg _ (by omega)) (Int.emod_lt_of_pos _ hm)⟩
def spCell (K : PySem.W.Frag) : Sp := fun vs H Q _ => ∃ (a d : Addr) (ns ds : List Int), vs = [.ref a, .ref d] ∧ ScrAt K H a (iV ns) ∧ H d = some (.lst (iV ds)) ∧ ∀ x H', Ext d H H' → Q (.int x) H'
theorem ok_cell {f f1 : Addr} {fd fd1 : FuncData} {k : Nat} (F : Fun K "_law_cell" "_law_cell" sCell f fd) (F1 : Fun K "_law_take" "_law_take" sTake f1 fd1) (b1 : Binds K fd1 ["_law_draws_here", "_law_many"] []) (m1 : mg "_law_take" = some (.ref f1)) (ml : mg "len" = none) (mi : mg "int" = none) :
    FnOk P w K mg base CX0 (k + 2) f fd ["_law_script", "_law_draws_here"] (spCell K) := by
  have G1 : FnOk P w K mg base CX0 (k + 1) f1 fd1 ["_law_draws_here", "_law_many"] spTake := ok_take F1 ml mi
  refine F.ok scCell (fun vs H Q E h => ?_) (fun cdv A outer s H vs Q E hr h => ?_)
  · obtain ⟨a, d, ns, ds, e, _⟩ := h
    rw [e]
    rfl
  · obtain ⟨a, d, ns, ds, e, ha, hd, q⟩ := h
    subst e
    refine ⟨_, pss_cons (ps_if (pt_cmpR op_eq (pe_callB call_len_seq (by rfl) ml (by decide +kernel) (pa_cons (pv 0) pa_nil)) pe_int (nomark _)) (pss_one (ps_ret pe_int)) pss_nil)
      (pss_one (ps_ret (pe_callTy call_int1 (by rfl) mi (by decide +kernel) (pa_cons (pe_ix ix_list (pv 0) (pe_call G1 hr (by rfl) m1 F1.kp b1 .nil pass0 (pa_cons (pv 1) (pa_cons (pe_callB call_len_seq (by rfl) ml (by decide +kernel) (pa_cons (pv 0) pa_nil)) pa_nil))) (fun _ _ => rfl)) pa_nil)))), ?_⟩
    refine ⟨_, rfl, a, _, rfl, .inl ha.sq, rfl, _, rfl, ite2 (fun e => ?_) (fun e => ?_)⟩
    · exact q 0 H (.of ⟨ds, hd⟩ (Same.refl H))
    · have ne : ns ≠ [] := fun z => e (by rw [z]; rfl)
      have pos := List.length_pos_iff.mpr ne
      refine ⟨_, rfl, _, rfl, _, rfl, a, _, rfl, .inl ha.sq, d, ((iV ns).length : Int), ds, rfl, by rw [iV_length]; omega, hd, fun x H1 x1 h0 hx => ?_⟩
      rw [iV_length] at hx
      refine ⟨a, _, x, _, rfl, rfl, (ha.ext ⟨ds, hd⟩ x1).sq, atI_row h0 hx, .inl ⟨_, rfl, q _ H1 x1⟩⟩
def spDraws (K : PySem.W.Frag) : Sp := fun vs H Q _ => ∃ (a : Addr) (m : Nat) (ns : List Int), vs = [.ref a, .int m] ∧ ScrAt K H a (iV ns) ∧ ns.length ≤ 63 ∧ m ≤ 900 ∧ ∀ H' d ds, Same H H' → H d = none → H' d = some (.lst (iV ds)) → Q (.ref d) H'
theorem ok_draws {f : Addr} {fd : FuncData} {k : Nat} (F : Fun K "_law_draws" "_law_draws" sDraws f fd) (ml : mg "len" = none) (mi : mg "int" = none) (mL : mg "list" = none) (mr : mg "range" = none) : FnOk P w K mg base CX0 (k + 1) f fd ["_law_script", "_law_many"] (spDraws K) := by
  refine F.ok scDraws (fun vs H Q E h => ?_) (fun cdv A outer s H vs Q E hr h => ?_)
  · obtain ⟨a, m, ns, e, _⟩ := h
    rw [e]
    rfl
  · obtain ⟨a, m, ns, e, ha, hns, hm, q⟩ := h
    subst e
    refine ⟨_, pss_cons (ps_setLc (i := 2) (own := [("_law_cell_here", 8)]) (g := gName 8) rfl scDraws.nd rfl rfl (sw_true rfl rfl rfl (by decide +kernel)) (pi_list (pv 0)) (blkOk_by (N := nDraws) (sc := defScope sDraws) (by decide +kernel))
          (fun _ _ _ _ _ => pg_name (i := 8) scDraws.nd rfl (Or.inl rfl)) (fun _ _ _ _ _ => pts_nil) (fun _ _ _ _ _ => pe_callTy call_int1 (by rfl) mi (by decide +kernel) (pa_cons (pv 8) pa_nil)))
      (C8.pss_cut (ps_if (pt_cmpR op_eq (pe_callB call_len_seq (by rfl) ml (by decide +kernel) (pa_cons (pv 2) pa_nil)) pe_int (nomark _)) (pss_one (ps_expr (pe_bm PySem.F.plainAttrs_list PySem.F.slot_list_append PySem.F.type_list_append mt_append (pv 2) (pa_cons pe_int pa_nil)))) pss_nil)
      (pss_cons (ps_set (i := 3) scDraws.nd rfl (.inl rfl) (pe_callTy call_list_of (by rfl) mL (by decide +kernel) (pa_cons (pv 2) pa_nil)))
      (pss_cons (ps_set (i := 4) scDraws.nd rfl (.inl rfl) (pe_lst pa_nil))
      (pss_cons (ps_for PassesOwn.never rfl (pi_range1 (by rfl) mr (pa_cons (pv 1) pa_nil)) (pg_name (i := 5) scDraws.nd rfl (.inl rfl))
          (pss_cons (ps_set (i := 6) scDraws.nd rfl (.inl rfl) (pe_op op_mod (pv 5) (pe_callB call_len_seq (by rfl) ml (by decide +kernel) (pa_cons (pv 2) pa_nil))))
          (pss_one (ps_if (pt_cmpR op_ge (pe_ix ix_list (pv 2) (pv 6) (fun _ _ => rfl)) (pe_op op_pow pe_int pe_int) (nomark _))
            (pss_cons (ps_expr (pe_bm PySem.F.plainAttrs_list PySem.F.slot_list_append PySem.F.type_list_append mt_append (pv 4) (pa_cons (pe_op op_mod (pe_callTy call_int1 (by rfl) mi (by decide +kernel) (pa_cons (pe_ix ix_list (pv 3) (pv 6) (fun _ _ => rfl)) pa_nil)) pe_int) pa_nil)))
              (pss_one (ps_asg (pe_op op_fdivW (pe_ix ix_list (pv 3) (pv 6) (fun _ _ => rfl)) pe_int) (pg_sub (pv 3) (pv 6) set_list))))
            (pss_cons (ps_set (i := 7) scDraws.nd rfl (.inl rfl) (pe_op op_mod (pe_callTy call_int1 (by rfl) mi (by decide +kernel) (pa_cons (pe_op op_add (pe_op op_add (pe_op op_mul (pe_ix ix_list (pv 2) (pv 6) (fun _ _ => rfl)) pe_int) (pe_op op_mul (pv 5) pe_int)) pe_int) pa_nil)) pe_int))
              (pss_one (ps_expr (pe_bm PySem.F.plainAttrs_list PySem.F.slot_list_append PySem.F.type_list_append mt_append (pv 4) (pa_cons (pe_op op_mod (pe_callTy call_int1 (by rfl) mi (by decide +kernel) (pa_cons (pe_op op_add (pe_op op_add (pe_op op_mul (pv 7) (pv 7)) (pe_op op_mul pe_int (pv 7))) (pv 5)) pa_nil)) pe_int) pa_nil)))))))))
      (pss_cons (ps_expr (pe_bm0 PySem.F.plainAttrs_list PySem.F.slot_list_reverse PySem.F.type_list_reverse mt_reverse (pv 4)))
      (pss_one (ps_ret (pv 4)))))))), ?_⟩
    -- cells
    refine ⟨_, rfl, a, rfl, ⟨_, ha.sq⟩, fun C nC => lc_list (xs := iV ns) (fun i H' => Same H H' ∧ H' C = some (.lst (iV (ns.take i)))) ⟨same_upd nC, upd_same⟩ (fun i H' _ p => (ha.same p.1).sq) (fun i x H1 hx p => ?_) fun H1 p => ?_⟩
    · obtain ⟨s1, hC⟩ := p
      obtain ⟨n, hn, rfl⟩ := iV_get hx
      refine ⟨rfl, yes_turn ?_⟩
      refine ⟨_, rfl, .inl ⟨_, rfl, _, hC, ?_, same_grow s1 nC, ?_⟩⟩
      · rw [iV_length, List.length_take]
        exact small_of (Nat.le_trans (Nat.min_le_right _ _) hns) (by decide)
      · rw [upd_same, iV_grow hn]
    obtain ⟨s1, hC⟩ := p
    rw [iV_length, List.take_length] at hC
    refine ⟨fun σ H' => σ = [some (.ref a), some (.int (m : Int)), some (.ref C), none, none, none, none, none, none] ∧ Same H H' ∧ ∃ cs : List Int, cs ≠ [] ∧ cs.length ≤ 64 ∧ H' C = some (.lst (iV cs)), ?_, ?_⟩
    · refine ⟨_, rfl, C, _, rfl, .inl (SqL.of hC), rfl, _, rfl, ite2 (fun e => ?_) (fun e => ?_)⟩
      · refine ⟨_, rfl, .inl ⟨rfl, _, SqL.of hC⟩, C, _, _, rfl, rfl, hC, ?_, rfl, same_grow s1 nC, ns ++ [0], ?_, ?_, ?_⟩
        · rw [iV_length]
          exact small_of hns (by decide)
        · exact List.append_ne_nil_of_right_ne_nil _ (List.cons_ne_nil _ _)
        · rw [List.length_append]
          exact Nat.add_le_add_right hns 1
        · rw [upd_same, iV_snoc]
      · exact ⟨rfl, s1, ns, fun z => e (by rw [z]; rfl), by omega, hC⟩
    rintro σ H2 ⟨rfl, s2, cs, cne, c64, hC2⟩
    have cpos := List.length_pos_iff.mpr cne
    -- rest, draws
    refine ⟨_, rfl, C, _, rfl, .inl (SqL.of hC2), fun R nR => ?_⟩
    refine ⟨Nat.zero_le _, fun D nD => ?_⟩
    have nHR : H R = none := s2.free nR
    have nHD : H D = none := (s2.trans (same_upd nR)).free nD
    have CR : C ≠ R := ne_of_none hC2 nR
    have CD : C ≠ D := ne_of_none (same_upd nR _ _ hC2) nD
    have RD : R ≠ D := ne_of_none (upd_same (H := H2)) nD
    refine ⟨_, rfl, (m : Int), rfl, by omega, by omega, for_range (lo := 0) (n := _) (fun i σ H' => ∃ (y5 y6 y7 : Option V) (rs ds : List Int), σ = [some (.ref a), some (.int (m : Int)), some (.ref C), some (.ref R), some (.ref D), y5, y6, y7, none] ∧ Same H H' ∧ H' C = some (.lst (iV cs)) ∧ H' R = some (.lst (iV rs)) ∧ rs.length = cs.length ∧ H' D = some (.lst (iV ds)) ∧ ds.length = i)
      ⟨none, none, none, cs, [], rfl, same_grow (same_grow s2 nHR) nHD, ?_, ?_, rfl, upd_same, rfl⟩ ?_ ?_⟩
    · rw [upd_ne CD, upd_ne CR]
      exact hC2
    · rw [upd_ne RD, upd_same]
    · rintro i σ H3 hi ⟨y5, y6, y7, rs, ds, rfl, s3, hC3, hR3, lr, hD3, ld⟩
      have i900 : ds.length ≤ 900 := by
        rw [Int.toNat_natCast] at hi
        omega
      have clen : ((iV cs).length : Int) = (cs.length : Int) := by rw [iV_length]
      refine ⟨_, rfl, _, rfl, C, _, rfl, .inl (SqL.of hC3), _, _, rfl, rfl, by rw [clen]; omega, ?_⟩
      obtain ⟨t, ht, et⟩ : ∃ t : Nat, t < cs.length ∧ (0 + (i : Int)) % ((iV cs).length : Int) = (t : Int) := by
        refine ⟨((0 + (i : Int)) % (cs.length : Int)).toNat, ?_, ?_⟩
        · have z1 := Int.emod_nonneg (0 + (i : Int)) (show (cs.length : Int) ≠ 0 by omega)
          have z2 := Int.emod_lt_of_pos (0 + (i : Int)) (show (0 : Int) < (cs.length : Int) by omega)
          omega
        · rw [clen]
          have z1 := Int.emod_nonneg (0 + (i : Int)) (show (cs.length : Int) ≠ 0 by omega)
          omega
      show gName 6 (V.int ((0 + (i : Int)) % ((iV cs).length : Int))) _ _ _
      rw [et]
      have atC : atI (iV cs) (t : Int) = some (.int (at_ cs (t : Int))) := atI_row (by omega) (by omega)
      have atR : atI (iV rs) (t : Int) = some (.int (at_ rs (t : Int))) := atI_row (by omega) (by omega)
      have dsm : (iV ds).length < sizeLine := by
        rw [iV_length]
        exact small_of i900 (by decide)
      refine ⟨_, rfl, _, rfl, C, _, _, _, rfl, rfl, SqL.of hC3, atC, 10, 18, rfl, rfl, ⟨by decide, by decide, by decide⟩, _, _, rfl, rfl, _, rfl, ite2 (fun _ => ?_) (fun _ => ?_)⟩
      · refine ⟨_, rfl, .inl ⟨rfl, _, SqL.of hD3⟩, _, rfl, _, rfl, R, _, _, _, rfl, rfl, SqL.of hR3, atR, .inl ⟨_, rfl, _, _, rfl, rfl, by show (0 : Int) < 1000; decide, D, _, _, rfl, rfl, hD3, dsm, ?_⟩⟩
        have hR4 : (upd H3 D (.lst (iV ds ++ [.int (at_ rs (t : Int) % 1000)]))) R = some (.lst (iV rs)) := by
          rw [upd_ne RD]
          exact hR3
        refine ⟨_, rfl, _, rfl, R, _, _, _, rfl, rfl, SqL.of hR4, atR, _, _, rfl, rfl, wide_div (b := 10) (by decide) (by decide) (by decide) (by decide), _, rfl, _, rfl, R, _, _, t, rfl, rfl, hR4, ?_, ?_⟩
        · rw [iV_length]
          exact ixN_of (by omega)
        · refine ⟨_, _, _, rs.set t (at_ rs (t : Int) / 1000), ds ++ [at_ rs (t : Int) % 1000], rfl, same_grow (same_grow s3 nHD) nHR, ?_, ?_, ?_, ?_, ?_⟩
          · rw [upd_ne CR, upd_ne CD]
            exact hC3
          · rw [upd_same, iV_set]
          · rw [List.length_set, lr]
          · rw [upd_ne RD.symm, upd_same, iV_snoc]
          · rw [List.length_append, ld]
            rfl
      · refine ⟨_, rfl, _, rfl, C, _, _, _, rfl, rfl, SqL.of hC3, atC, _, _, rfl, rfl, .inr ⟨by decide, by decide⟩, _, rfl, _, _, rfl, rfl, .inr ⟨by decide, by decide⟩, _, _, rfl, rfl, _, _, rfl, rfl, .inl ⟨_, rfl, _, _, rfl, rfl, by show (0 : Int) < 2147483647; decide, ?_⟩⟩
        show gName 7 (V.int ((at_ cs (t : Int) * 48271 + (0 + (i : Int)) * 69621 + 11) % 2147483647)) _ _ _
        generalize ho : (at_ cs (t : Int) * 48271 + (0 + (i : Int)) * 69621 + 11) % 2147483647 = once
        have o1 : 0 ≤ once := by
          rw [← ho]
          exact Int.emod_nonneg _ (by decide)
        have o2 : once < 2147483647 := by
          rw [← ho]
          exact Int.emod_lt_of_pos _ (by decide)
        refine ⟨_, rfl, .inl ⟨rfl, _, SqL.of hD3⟩, _, rfl, _, rfl, _, _, rfl, rfl, .inl ⟨by omega, by omega⟩, _, rfl, _, _, rfl, rfl, .inl ⟨by decide, by decide⟩, _, _, rfl, rfl, _, rfl, _, _, rfl, rfl, .inl ⟨_, rfl, _, _, rfl, rfl, by show (0 : Int) < 1000003; decide, D, _, _, rfl, rfl, hD3, dsm, ?_⟩⟩
        refine ⟨_, _, _, rs, ds ++ [(once * once + 3 * once + (0 + (i : Int))) % 1000003], rfl, same_grow s3 nHD, ?_, ?_, lr, ?_, ?_⟩
        · rw [upd_ne CD]
          exact hC3
        · rw [upd_ne RD]
          exact hR3
        · exact upd_same.trans (congrArg (fun l => some (HO.lst l)) (iV_snoc _ _).symm)
        · rw [List.length_append, ld]
          rfl
    · rintro σ H3 ⟨y5, y6, y7, rs, ds, rfl, s3, hC3, hR3, lr, hD3, ld⟩
      refine ⟨_, rfl, .inl ⟨rfl, _, SqL.of hD3⟩, D, _, rfl, rfl, hD3, ?_⟩
      refine ⟨_, rfl, q _ D ds.reverse (same_grow s3 nHD) nHD ?_⟩
      rw [upd_same]
      show some (HO.lst (ds.map V.int).reverse) = some (.lst (ds.reverse.map V.int))
      rw [List.map_reverse]
end
end N22
set_option Elab.async false
set_option linter.all false
set_option maxRecDepth 100000
set_option maxHeartbeats 4000000
/-! _law_columns, _law_scheme, _law_wide. -/
namespace N22
open PySem PySem.Spec PyProof.Rows L2
theorem inW_nil : InW 0 [] := fun c hc => by cases hc
theorem at_mem {l : List Int} {x : Int} (h0 : 0 ≤ x) (h1 : x < (l.length : Int)) : at_ l x ∈ l := by
  have hx : x.toNat < l.length := by omega
  unfold at_
  rw [List.getD_eq_getElem?_getD, List.getElem?_eq_getElem hx]
  exact List.getElem_mem hx
theorem cutV_iV (l : List Int) (lo hi : Option Int) : ∃ m : List Int, cutV (iV l) lo hi = iV m ∧ m.length = (cutV (iV l) lo hi).length := by
  refine ⟨(l.drop (HT.sIx (iV l).length 0 lo)).take (HT.sIx (iV l).length (iV l).length hi - HT.sIx (iV l).length 0 lo), ?_, ?_⟩
  · unfold cutV
    show _ = (((l.drop _).take _).map V.int)
    rw [List.map_take, List.map_drop]
  · unfold cutV
    show _ = (((l.map V.int).drop _).take _).length
    rw [List.length_take, List.length_take, List.length_drop, List.length_drop, List.length_map]
section
variable {P : Program} {w : World} {K : PySem.W.Frag} {mg : Str → Option Value} {base : Heap}
/-- the draws stand at d -/
abbrev Dr (H : Hp) (d : Addr) : Prop := ∃ ds : List Int, H d = some (.lst (iV ds))
def spColumns : Sp := fun vs H Q _ => ∃ (d : Addr) (n : Nat), vs = [.ref d, .int n] ∧ n ≤ 100 ∧ Dr H d ∧ ∀ H' p cs, Ext d H H' → H p = none → TupAt H' p cs → InW n cs → cs.Nodup → cs.length ≤ n → Q (.ref p) H'
theorem ok_columns {f f1 : Addr} {fd fd1 : FuncData} {k : Nat} (F : Fun K "_law_columns" "_law_columns" sColumns f fd) (F1 : Fun K "_law_take" "_law_take" sTake f1 fd1) (b1 : Binds K fd1 ["_law_draws_here", "_law_many"] []) (m1 : mg "_law_take" = some (.ref f1))
    (ml : mg "len" = none) (mi : mg "int" = none) (mt : mg "tuple" = none) (mr : mg "range" = none) : FnOk P w K mg base CX0 (k + 2) f fd ["_law_draws_here", "_law_width"] spColumns := by
  have G1 : FnOk P w K mg base CX0 (k + 1) f1 fd1 ["_law_draws_here", "_law_many"] spTake := ok_take F1 ml mi
  refine F.ok scColumns (fun vs H Q E h => ?_) (fun cdv A outer s H vs Q E hr h => ?_)
  · obtain ⟨d, n, e, _⟩ := h
    rw [e]
    rfl
  · obtain ⟨d, n, e, hn, hd, q⟩ := h
    subst e
    refine ⟨_, pss_cons (ps_set (i := 2) scColumns.nd rfl (.inr rfl) (pe_ix ix_list (pe_lst (pa_cons pe_int (pa_cons pe_int (pa_cons pe_int pa_nil)))) (pe_call G1 hr (by rfl) m1 F1.kp b1 .nil pass0 (pa_cons (pv 0) (pa_cons pe_int pa_nil))) (fun _ _ => rfl)))
      (pss_one (ps_ret (pe_callTy call_tuple_of (by rfl) mt (by decide +kernel) (pa_cons
        (pe_lc (own := [("_law_column", 3)]) (g := gName 3) (tt := tTest (tOp (rI0 fun i j => .bl (decide (i < j))) (tCall spTake [] E0 (tCons (tVar 0) (tCons (tC (.int 6)) tNil))) (tVar 2))) (te := tVar 3) rfl scColumns.nd (pi_range1 (by rfl) mr (pa_cons (pv 1) pa_nil)) (blkOk_by (N := nColumns) (sc := defScope sColumns) (by decide +kernel))
          (fun _ _ _ _ _ => pg_name (i := 3) scColumns.nd rfl (Or.inl rfl)) (fun _ _ _ _ _ => pts_one (pt_cmpR op_lt (pe_call G1 hr (by rfl) m1 F1.kp b1 .nil pass0 (pa_cons (pv 0) (pa_cons pe_int pa_nil))) (pv 2) (nomark _))) (fun _ _ _ _ _ => pv 3)) pa_nil)))), ?_⟩
    refine ⟨by show 3 ≤ sizeLine; decide, fun l nl => ?_⟩
    have s0 : Same H (upd H l (.lst [.int 2, .int 3, .int 4])) := same_upd nl
    have x0 := Ext.of hd s0
    obtain ⟨ds0, hd0⟩ := x0.draw
    refine ⟨_, rfl, d, 3, ds0, rfl, by decide, hd0, fun x H1 x1 h0 h3 => ?_⟩
    have ld : l ≠ d := fun z => by
      obtain ⟨ds, q⟩ := hd
      rw [z, q] at nl
      cases nl
    have hl : H1 l = some (.lst (iV [2, 3, 4])) := x1.keep l _ ld upd_same
    have x01 := x0.trans x1
    refine ⟨l, _, x, _, rfl, rfl, SqL.of hl, atI_row (r := [2, 3, 4]) h0 h3, ?_⟩
    refine ⟨_, rfl, (n : Int), rfl, by omega, by omega, fun D nD => lc_range (lo := 0) (n := _) (fun i H' => Ext d H1 H' ∧ ∃ cs : List Int, H' D = some (.lst (iV cs)) ∧ InW i cs ∧ cs.Nodup ∧ cs.length ≤ i)
      ⟨Ext.of x1.draw (same_upd nD), [], upd_same, inW_nil, List.nodup_nil, Nat.le_refl _⟩ (fun i H2 hi p => ?_) fun H2 p => ?_⟩
    · obtain ⟨x2, cs, hD, hin, hnd, hl2⟩ := p
      obtain ⟨ds2, hd2⟩ := x2.draw
      rw [Int.toNat_natCast] at hi
      have e0 : (0 : Int) + (i : Int) = (i : Int) := Int.zero_add _
      have nDd : D ≠ d := fun z => by
        obtain ⟨ds, q⟩ := x1.draw
        rw [z, q] at nD
        cases nD
      refine ⟨rfl, ?_⟩
      refine ⟨_, rfl, d, 6, ds2, rfl, by decide, hd2, fun y H3 x3 y0 y6 => ?_⟩
      have hD3 := x3.keep D _ nDd hD
      refine ⟨_, rfl, _, _, rfl, rfl, _, rfl, ite2 (fun _ => ?_) (fun _ => ?_)⟩
      · refine ⟨_, rfl, _, hD3, ?_, (x2.trans x3).grow x1.draw nD, cs ++ [(i : Int)], ?_, fun c hc => ?_, ?_, ?_⟩
        · rw [iV_length]
          exact small_of (Nat.le_trans hl2 (by omega : i ≤ 100)) (by decide)
        · rw [upd_same, iV_snoc, e0]
        · rcases List.mem_append.mp hc with z | z
          · have := hin c z
            omega
          · rw [List.mem_singleton.mp z]
            omega
        · refine List.nodup_append.mpr ⟨hnd, List.nodup_cons.mpr ⟨List.not_mem_nil, List.nodup_nil⟩, fun u hu v hv e => ?_⟩
          have z1 := hin u hu
          rw [List.mem_singleton.mp hv] at e
          omega
        · rw [List.length_append]
          exact Nat.add_le_add_right hl2 1
      · exact ⟨x2.trans x3, cs, hD3, fun c hc => by have := hin c hc; omega, hnd, by omega⟩
    · obtain ⟨x2, cs, hD, hin, hnd, hl2⟩ := p
      rw [Int.toNat_natCast] at hin hl2
      have x02 := x01.trans x2
      refine ⟨D, _, rfl, .inl ⟨SqL.of hD, fun t nt => ?_⟩⟩
      exact q _ t cs (x02.then (same_upd nt)) (x02.free hd nt) upd_same hin hnd hl2
def spScheme : Sp := fun vs H Q _ => ∃ (d : Addr), vs = [.ref d] ∧ Dr H d ∧ ∀ H' p ws, Ext d H H' → H p = none → TupAt H' p ws → 1 ≤ ws.length → ws.length ≤ 6 → (∀ x ∈ ws, 1 ≤ x ∧ x ≤ 7) → Q (.ref p) H'
theorem ok_scheme {f f1 : Addr} {fd fd1 : FuncData} {k : Nat} (F : Fun K "_law_scheme" "_law_scheme" sScheme f fd) (F1 : Fun K "_law_take" "_law_take" sTake f1 fd1) (b1 : Binds K fd1 ["_law_draws_here", "_law_many"] []) (m1 : mg "_law_take" = some (.ref f1))
    (ml : mg "len" = none) (mi : mg "int" = none) (mt : mg "tuple" = none) (mr : mg "range" = none) : FnOk P w K mg base CX0 (k + 2) f fd ["_law_draws_here"] spScheme := by
  have G1 : FnOk P w K mg base CX0 (k + 1) f1 fd1 ["_law_draws_here", "_law_many"] spTake := ok_take F1 ml mi
  refine F.ok scScheme (fun vs H Q E h => ?_) (fun cdv A outer s H vs Q E hr h => ?_)
  · obtain ⟨d, e, _⟩ := h
    rw [e]
    rfl
  · obtain ⟨d, e, hd, q⟩ := h
    subst e
    refine ⟨_, pss_cons (ps_set (i := 1) scScheme.nd rfl (.inl rfl) (pe_ix ix_list (pe_lst (pa_cons pe_int (pa_cons pe_int (pa_cons pe_int (pa_cons pe_int pa_nil))))) (pe_call G1 hr (by rfl) m1 F1.kp b1 .nil pass0 (pa_cons (pv 0) (pa_cons pe_int pa_nil))) (fun _ _ => rfl)))
      (pss_cons (ps_set (i := 2) scScheme.nd rfl (.inr rfl) (pe_lst (pa_cons pe_int (pa_cons pe_int (pa_cons pe_int (pa_cons pe_int (pa_cons pe_int (pa_cons pe_int pa_nil))))))))
      (C8.pss_cut (ps_if (pt_cmpR op_eq (pe_call G1 hr (by rfl) m1 F1.kp b1 .nil pass0 (pa_cons (pv 0) (pa_cons pe_int pa_nil))) pe_int (nomark _))
          (pss_cons (ps_set (i := 1) scScheme.nd rfl (.inl rfl) pe_int) (pss_one (ps_set (i := 2) scScheme.nd rfl (.inr rfl) (pe_lst (pa_cons pe_int (pa_cons pe_int (pa_cons pe_int (pa_cons pe_int (pa_cons pe_int (pa_cons pe_int pa_nil)))))))))) pss_nil)
      (pss_one (ps_ret (pe_callTy call_tuple_of (by rfl) mt (by decide +kernel) (pa_cons
        (pe_lc (own := [("_law_table", 3)]) (g := gName 3) (te := tOp (rIxL K) (tVar 2) (tCall spTake [] E0 (tCons (tVar 0) (tCons (tC (.int 6)) tNil)))) rfl scScheme.nd (pi_range1 (by rfl) mr (pa_cons (pv 1) pa_nil)) (blkOk_by (N := nScheme) (sc := defScope sScheme) (by decide +kernel))
          (fun _ _ _ _ _ => pg_name (i := 3) scScheme.nd rfl (Or.inl rfl)) (fun _ _ _ _ _ => pts_nil) (fun _ _ _ _ _ => pe_ix ix_list (pv 2) (pe_call G1 hr (by rfl) m1 F1.kp b1 .nil pass0 (pa_cons (pv 0) (pa_cons pe_int pa_nil))) (fun _ _ => rfl))) pa_nil)))))), ?_⟩
    -- many
    refine ⟨by show 4 ≤ sizeLine; decide, fun l nl => ?_⟩
    have x0 := Ext.of hd (same_upd (o := .lst [.int 1, .int 2, .int 2, .int 3]) nl)
    obtain ⟨ds0, hd0⟩ := x0.draw
    refine ⟨_, rfl, d, 4, ds0, rfl, by decide, hd0, fun x H1 x1 h0 h3 => ?_⟩
    have ld : l ≠ d := fun z => by
      obtain ⟨ds, q⟩ := hd
      rw [z, q] at nl
      cases nl
    have hl : H1 l = some (.lst (iV [1, 2, 2, 3])) := x1.keep l _ ld upd_same
    have x01 := x0.trans x1
    refine ⟨l, _, x, _, rfl, rfl, SqL.of hl, atI_row (r := [1, 2, 2, 3]) h0 h3, ?_⟩
    have many : ∃ m : Nat, at_ [1, 2, 2, 3] x = (m : Int) ∧ 1 ≤ m ∧ m ≤ 6 := by
      have mem := at_mem (l := [1, 2, 2, 3]) h0 h3
      have all : ∀ y ∈ ([1, 2, 2, 3] : List Int), 1 ≤ y ∧ y ≤ 6 := by decide
      have z := all _ mem
      exact ⟨(at_ [1, 2, 2, 3] x).toNat, by omega, by omega, by omega⟩
    obtain ⟨m, em, m1', m6⟩ := many
    rw [em]
    -- widths
    refine ⟨by show 6 ≤ sizeLine; decide, fun W nW => ?_⟩
    have x2 := x01.then (same_upd (o := .lst [.int 3, .int 2, .int 4, .int 3, .int 1, .int 3]) nW)
    have nHW : H W = none := x01.free hd nW
    have Wd : W ≠ d := fun z => by
      obtain ⟨ds, q⟩ := hd
      rw [z, q] at nHW
      cases nHW
    refine ⟨fun σ H' => ∃ (m : Nat) (W : Addr) (wl : List Int), σ = [some (.ref d), some (.int (m : Int)), some (.ref W), none] ∧ Ext d H H' ∧ W ≠ d ∧ H' W = some (.lst (iV wl)) ∧ wl.length = 6 ∧ (∀ y ∈ wl, 1 ≤ y ∧ y ≤ 7) ∧ 1 ≤ m ∧ m ≤ 6, ?_, ?_⟩
    · obtain ⟨ds2, hd2⟩ := x2.draw
      refine ⟨_, rfl, d, 12, ds2, rfl, by decide, hd2, fun y H3 x3 y0 y12 => ⟨rfl, _, rfl, ite2 (fun _ => ?_) (fun _ => ?_)⟩⟩
      · refine ⟨by show 6 ≤ sizeLine; decide, fun W2 nW2 => ?_⟩
        have x23 := x2.trans x3
        have nHW2 : H W2 = none := x23.free hd nW2
        have Wd2 : W2 ≠ d := fun z => by
          obtain ⟨ds, q⟩ := hd
          rw [z, q] at nHW2
          cases nHW2
        exact ⟨6, W2, [7, 5, 3, 1, 2, 6], rfl, x23.then (same_upd nW2), Wd2, upd_same, rfl, by decide, by decide, by decide⟩
      · exact ⟨m, W, [3, 2, 4, 3, 1, 3], rfl, x2.trans x3, Wd, x3.keep W _ Wd upd_same, rfl, by decide, m1', m6⟩
    rintro σ H3 ⟨m, W, wl, rfl, x3, Wd, hW, wl6, hwl, m1', m6⟩
    refine ⟨_, rfl, (m : Int), rfl, by omega, by omega, fun D nD => lc_range (lo := 0) (n := _) (fun i H' => Ext d H3 H' ∧ H' W = some (.lst (iV wl)) ∧ ∃ ws : List Int, H' D = some (.lst (iV ws)) ∧ ws.length = i ∧ ∀ y ∈ ws, 1 ≤ y ∧ y ≤ 7)
      ⟨Ext.of x3.draw (same_upd nD), same_upd nD _ _ hW, [], upd_same, rfl, fun y hy => by cases hy⟩ (fun i H4 hi p => ?_) fun H4 p => ?_⟩
    · obtain ⟨x4, hW4, ws, hD, lw, hws⟩ := p
      obtain ⟨ds4, hd4⟩ := x4.draw
      rw [Int.toNat_natCast] at hi
      have nDd : D ≠ d := fun z => by
        obtain ⟨ds, q⟩ := x3.draw
        rw [z, q] at nD
        cases nD
      have WD : W ≠ D := ne_of_none hW nD
      refine ⟨rfl, yes_turn ?_⟩
      refine ⟨_, rfl, _, rfl, d, 6, ds4, rfl, by decide, hd4, fun y H5 x5 y0 y6 => ?_⟩
      have hW5 := x5.keep W _ Wd hW4
      have hD5 := x5.keep D _ nDd hD
      have yl : y < (wl.length : Int) := by rw [wl6]; exact y6
      refine ⟨W, _, y, _, rfl, rfl, SqL.of hW5, atI_row y0 yl, _, hD5, ?_, (x4.trans x5).grow x3.draw nD, ?_, ws ++ [at_ wl y], ?_, ?_, fun z hz => ?_⟩
      · rw [iV_length, lw]
        exact small_of (by omega : i ≤ 6) (by decide)
      · rw [upd_ne WD]
        exact hW5
      · rw [upd_same, iV_snoc]
      · rw [List.length_append, lw]
        rfl
      · rcases List.mem_append.mp hz with c | c
        · exact hws z c
        · rw [List.mem_singleton.mp c]
          exact hwl _ (at_mem y0 yl)
    · obtain ⟨x4, hW4, ws, hD, lw, hws⟩ := p
      rw [Int.toNat_natCast] at lw
      have x34 := x3.trans x4
      refine ⟨D, _, rfl, .inl ⟨SqL.of hD, fun t nt => ?_⟩⟩
      exact q _ t ws (x34.then (same_upd nt)) (x34.free hd nt) upd_same (by omega) (by omega) hws
def spWide : Sp := fun vs H Q _ => ∃ (d : Addr) (c : Int), vs = [.ref d, .int c] ∧ Dr H d ∧ ∀ H' l ws, Ext d H H' → H l = none → H' l = some (.lst (iV ws)) → 1 ≤ ws.length → Q (.ref l) H'
theorem ok_wide {f f1 : Addr} {fd fd1 : FuncData} {k : Nat} (F : Fun K "_law_wide" "_law_wide" sWide f fd) (F1 : Fun K "_law_take" "_law_take" sTake f1 fd1) (b1 : Binds K fd1 ["_law_draws_here", "_law_many"] []) (m1 : mg "_law_take" = some (.ref f1))
    (ml : mg "len" = none) (mi : mg "int" = none) (mr : mg "range" = none) : FnOk P w K mg base CX0 (k + 2) f fd ["_law_draws_here", "_law_cell_here"] spWide := by
  have G1 : FnOk P w K mg base CX0 (k + 1) f1 fd1 ["_law_draws_here", "_law_many"] spTake := ok_take F1 ml mi
  refine F.ok scWide (fun vs H Q E h => ?_) (fun cdv A outer s H vs Q E hr h => ?_)
  · obtain ⟨d, c, e, _⟩ := h
    rw [e]
    rfl
  · obtain ⟨d, c, e, hd, q⟩ := h
    subst e
    refine ⟨_, pss_cons (ps_set (i := 2) scWide.nd rfl (.inl rfl) (pe_ix ix_list (pe_lst (pa_cons pe_int (pa_cons pe_int (pa_cons pe_int (pa_cons pe_int pa_nil))))) (pe_call G1 hr (by rfl) m1 F1.kp b1 .nil pass0 (pa_cons (pv 0) (pa_cons pe_int pa_nil))) (fun _ _ => rfl)))
      (pss_cons (ps_set (i := 3) scWide.nd rfl (.inr rfl) (pe_ix ix_list (pe_lst (pa_cons pe_int (pa_cons pe_int (pa_cons (pe_un un_neg pe_int) (pa_cons (pv 1) pa_nil))))) (pe_call G1 hr (by rfl) m1 F1.kp b1 .nil pass0 (pa_cons (pv 0) (pa_cons pe_int pa_nil))) (fun _ _ => rfl)))
      (pss_cons (ps_if (pt_cmpR op_eq (pe_call G1 hr (by rfl) m1 F1.kp b1 .nil pass0 (pa_cons (pv 0) (pa_cons pe_int pa_nil))) pe_int (nomark _))
          (pss_one (ps_ret (pe_slice sl_list (pe_lst (pa_cons pe_int (pa_cons pe_int (pa_cons pe_int (pa_cons pe_int (pa_cons (pv 3) pa_nil)))))) po_none (po_some (pv 2))))) pss_nil)
      (pss_one (ps_ret (pe_lc (own := [("_law_k", 4)]) (g := gName 4) (te := tOp (rI0 fun i j => .int (i + j)) (tVar 3) (tVar 4)) rfl scWide.nd (pi_range1 (by rfl) mr (pa_cons (pv 2) pa_nil)) (blkOk_by (N := nWide) (sc := defScope sWide) (by decide +kernel))
          (fun _ _ _ _ _ => pg_name (i := 4) scWide.nd rfl (Or.inl rfl)) (fun _ _ _ _ _ => pts_nil) (fun _ _ _ _ _ => pe_op op_add (pv 3) (pv 4))))))), ?_⟩
    -- many
    refine ⟨by show 4 ≤ sizeLine; decide, fun l nl => ?_⟩
    have x0 := Ext.of hd (same_upd (o := .lst [.int 2, .int 2, .int 3, .int 5]) nl)
    obtain ⟨ds0, hd0⟩ := x0.draw
    refine ⟨_, rfl, d, 4, ds0, rfl, by decide, hd0, fun x H1 x1 h0 h3 => ?_⟩
    have ld : l ≠ d := fun z => by
      obtain ⟨ds, q⟩ := hd
      rw [z, q] at nl
      cases nl
    have hl : H1 l = some (.lst (iV [2, 2, 3, 5])) := x1.keep l _ ld upd_same
    have x01 := x0.trans x1
    refine ⟨l, _, x, _, rfl, rfl, SqL.of hl, atI_row (r := [2, 2, 3, 5]) h0 h3, ?_⟩
    have many : at_ [2, 2, 3, 5] x = 2 ∨ at_ [2, 2, 3, 5] x = 3 ∨ at_ [2, 2, 3, 5] x = 5 := by
      have mem := at_mem (l := [2, 2, 3, 5]) h0 h3
      have all : ∀ y ∈ ([2, 2, 3, 5] : List Int), y = 2 ∨ y = 3 ∨ y = 5 := by decide
      exact all _ mem
    generalize at_ [2, 2, 3, 5] x = m at many
    -- base
    refine ⟨_, rfl, _, rfl, by show 4 ≤ sizeLine; decide, fun B nB => ?_⟩
    have x2 := x01.then (same_upd (o := .lst [.int 0, .int 0, .int (-2), .int c]) nB)
    obtain ⟨ds2, hd2⟩ := x2.draw
    have nHB : H B = none := x01.free hd nB
    have Bd : B ≠ d := fun z => by
      obtain ⟨ds, q⟩ := hd
      rw [z, q] at nHB
      cases nHB
    refine ⟨_, rfl, d, 4, ds2, rfl, by decide, hd2, fun y H3 x3 y0 y4 => ?_⟩
    have hB : H3 B = some (.lst (iV [0, 0, -2, c])) := x3.keep B _ Bd upd_same
    refine ⟨B, _, y, _, rfl, rfl, SqL.of hB, atI_row (r := [0, 0, -2, c]) y0 y4, ?_⟩
    generalize at_ [0, 0, -2, c] y = b
    have x23 := x2.trans x3
    obtain ⟨ds3, hd3⟩ := x23.draw
    -- a choice
    refine ⟨_, rfl, d, 5, ds3, rfl, by decide, hd3, fun z H4 x4 z0 z5 => ⟨rfl, _, rfl, ite2 (fun _ => ?_) (fun _ => ?_)⟩⟩
    · have x24 := x23.trans x4
      refine ⟨_, rfl, by show 5 ≤ sizeLine; decide, fun l2 nl2 => ?_⟩
      refine ⟨_, rfl, m, rfl, l2, _, rfl, SqL.of upd_same, fun t nt => ?_⟩
      have x5 := (x24.then (same_upd (o := .lst [.int 0, .int 11, .int 1, .int 111, .int b]) nl2))
      obtain ⟨ws, ew, lw⟩ := cutV_iV [0, 11, 1, 111, b] none (some m)
      refine q _ t ws (x5.then (same_upd nt)) (x5.free hd nt) ?_ ?_
      · rw [upd_same]
        exact congrArg (fun l => some (HO.lst l)) ew
      · have cl : (cutV (iV [0, 11, 1, 111, b]) none (some m)).length = min (HT.sIx 5 5 (some m) - HT.sIx 5 0 none) (5 - HT.sIx 5 0 none) := by
          unfold cutV
          rw [List.length_take, List.length_drop]
          rfl
        rw [lw, cl]
        rcases many with e | e | e <;> rw [e] <;> decide
    · have x24 := x23.trans x4
      refine ⟨_, rfl, m, rfl, by omega, by omega, fun D nD => lc_range (lo := 0) (n := _) (fun i H' => Same H4 H' ∧ ∃ ws : List Int, H' D = some (.lst (iV ws)) ∧ ws.length = i)
        ⟨same_upd nD, [], upd_same, rfl⟩ (fun i H5 hi p => ?_) fun H5 p => ?_⟩
      · obtain ⟨s5, ws, hD, lw⟩ := p
        refine ⟨rfl, yes_turn ?_⟩
        refine ⟨_, rfl, _, rfl, _, _, rfl, rfl, _, hD, ?_, same_grow s5 nD, ws ++ [b + (0 + (i : Int))], ?_, ?_⟩
        · rw [iV_length, lw]
          exact small_of (by omega : i ≤ 5) (by decide)
        · exact upd_same.trans (congrArg (fun l => some (HO.lst l)) (iV_snoc _ _).symm)
        · rw [List.length_append, lw]
          rfl
      · obtain ⟨s5, ws, hD, lw⟩ := p
        exact q H5 D ws (x24.then s5) (x24.free hd nD) hD (by omega)
end
end N22
set_option Elab.async false
set_option linter.all false
set_option maxRecDepth 100000
set_option maxHeartbeats 4000000
/-! _law_rows, _law_store, _law_agree, _law_thinned. -/
namespace N22
open PySem PySem.Spec PyProof.Rows L2
section
variable {P : Program} {w : World} {K : PySem.W.Frag} {mg : Str → Option Value} {base : Heap}
def spRows : Sp := fun vs H Q _ => ∃ (d wl : Addr) (n m : Nat) (ws : List Int), vs = [.ref d, .int n, .int m, .ref wl] ∧ 1 ≤ n ∧ n ≤ 100 ∧ m ≤ 6 ∧ Dr H d ∧ wl ≠ d ∧ H wl = some (.lst (iV ws)) ∧ 1 ≤ ws.length ∧
  ∀ H' p L, Ext d H H' → H p = none → TabAt H' p L → L.length ≤ 6 → (∀ r ∈ L, r.2.length = n) → Q (.ref p) H'
theorem ok_rows {f f1 : Addr} {fd fd1 : FuncData} {k : Nat} (F : Fun K "_law_rows" "_law_rows" sRows f fd) (F1 : Fun K "_law_take" "_law_take" sTake f1 fd1) (b1 : Binds K fd1 ["_law_draws_here", "_law_many"] []) (m1 : mg "_law_take" = some (.ref f1))
    (ml : mg "len" = none) (mi : mg "int" = none) (mt : mg "tuple" = none) (mr : mg "range" = none) (ms : mg "sorted" = none) (mS : mg "set" = none) : FnOk P w K mg base CX0 (k + 2) f fd ["_law_draws_here", "_law_width", "_law_most", "_law_wide_here"] spRows := by
  have G1 : FnOk P w K mg base CX0 (k + 1) f1 fd1 ["_law_draws_here", "_law_many"] spTake := ok_take F1 ml mi
  refine F.ok scRows (fun vs H Q E h => ?_) (fun cdv A outer s H vs Q E hr h => ?_)
  · obtain ⟨d, wl, n, m, ws, e, _⟩ := h
    rw [e]
    rfl
  · obtain ⟨d, wl, n, m, ws, e, hn1, hn, hm, hd, wd, hw, lw, q⟩ := h
    subst e
    refine ⟨_, pss_cons (ps_set (i := 4) scRows.nd rfl (.inl rfl) (pe_lst pa_nil))
      (pss_cons (ps_for PassesOwn.never rfl (pi_range1 (by rfl) mr (pa_cons (pe_call G1 hr (by rfl) m1 F1.kp b1 .nil pass0 (pa_cons (pv 0) (pa_cons (pe_op op_add (pv 2) pe_int) pa_nil))) pa_nil)) (pg_name (i := 5) scRows.nd rfl (.inl rfl))
        (pss_one (ps_expr (pe_bm PySem.F.plainAttrs_list PySem.F.slot_list_append PySem.F.type_list_append mt_append (pv 4) (pa_cons (pe_callTy call_tuple_of (by rfl) mt (by decide +kernel) (pa_cons
          (pe_lc (own := [("_law_column", 6)]) (g := gName 6) (te := tOp (rIxL K) (tVar 3) (tCall spTake [] E0 (tCons (tVar 0) (tCons (tCB (fun xs H Q => ∃ p ys, xs = [.ref p] ∧ (SqL K H p ys ∨ SqT K H p ys) ∧ Q (.int ys.length) H) (tCons (tVar 3) tNil)) tNil)))) rfl scRows.nd
            (pi_range1 (by rfl) mr (pa_cons (pv 1) pa_nil)) (blkOk_by (N := nRows) (sc := defScope sRows) (by decide +kernel)) (fun _ _ _ _ _ => pg_name (i := 6) scRows.nd rfl (Or.inl rfl)) (fun _ _ _ _ _ => pts_nil)
            (fun _ _ _ _ _ => pe_ix ix_list (pv 3) (pe_call G1 hr (by rfl) m1 F1.kp b1 .nil pass0 (pa_cons (pv 0) (pa_cons (pe_callB call_len_seq (by rfl) ml (by decide +kernel) (pa_cons (pv 3) pa_nil)) pa_nil))) (fun _ _ => rfl))) pa_nil)) pa_nil)))))
      (pss_one (ps_ret (pe_callTy call_tuple_of (by rfl) mt (by decide +kernel) (pa_cons (pe_callB (cr_sortTany rfl) (by rfl) ms (by decide +kernel) (pa_cons (pe_callTy (cr_setOfT rfl hr.units) (by rfl) mS (by decide +kernel) (pa_cons (pv 4) pa_nil)) pa_nil)) pa_nil))))), ?_⟩
    refine ⟨Nat.zero_le _, fun R nR => ?_⟩
    have x0 := Ext.of hd (same_upd (o := .lst []) nR)
    obtain ⟨ds0, hd0⟩ := x0.draw
    have Rd' : R ≠ d := fun z => by
      obtain ⟨ds, q⟩ := hd
      rw [z, q] at nR
      cases nR
    have wR : wl ≠ R := ne_of_none hw nR
    have m1' : (0 : Int) < (m : Int) + 1 := by omega
    refine ⟨_, rfl, _, rfl, _, _, rfl, rfl, d, (m : Int) + 1, ds0, rfl, m1', hd0, fun x H1 x1 h0 hx => ?_⟩
    have x01 := x0.trans x1
    refine ⟨x, rfl, by omega, by omega, for_range (lo := 0) (n := _) (fun i σ H' => ∃ y5, σ = [some (.ref d), some (.int (n : Int)), some (.int (m : Int)), some (.ref wl), some (.ref R), y5, none] ∧ Ext d H H' ∧ H' wl = some (.lst (iV ws)) ∧
        ∃ ks : List (Addr × List Int), H' R = some (.lst (rV ks)) ∧ ks.length = i ∧ ∀ p ∈ ks, TupAt H' p.1 p.2 ∧ p.2.length = n)
      ⟨none, rfl, x01, x01.keep wl _ wd hw, [], x1.keep R _ Rd' upd_same, rfl, fun p hp => by cases hp⟩ ?_ ?_⟩
    · rintro i σ H2 hi ⟨y5, rfl, x2, hw2, ks, hR, lk, hk⟩
      refine ⟨_, rfl, .inl ⟨rfl, _, SqL.of hR⟩, ?_⟩
      refine ⟨_, rfl, (n : Int), rfl, by omega, by omega, fun D nD => lc_range (lo := 0) (n := _) (fun j H' => Ext d H2 H' ∧ H' wl = some (.lst (iV ws)) ∧ ∃ vs : List Int, H' D = some (.lst (iV vs)) ∧ vs.length = j)
        ⟨Ext.of x2.draw (same_upd nD), same_upd nD _ _ hw2, [], upd_same, rfl⟩ (fun j H3 hj p => ?_) fun H3 p => ?_⟩
      · obtain ⟨x3, hw3, vs, hD, lv⟩ := p
        obtain ⟨ds3, hd3⟩ := x3.draw
        rw [Int.toNat_natCast] at hj
        have nDd : D ≠ d := fun z => by
          obtain ⟨ds, q⟩ := x2.draw
          rw [z, q] at nD
          cases nD
        have wD : wl ≠ D := ne_of_none hw2 nD
        refine ⟨rfl, yes_turn ?_⟩
        refine ⟨_, rfl, _, rfl, _, rfl, wl, _, rfl, .inl (SqL.of hw3), d, ((iV ws).length : Int), ds3, rfl, by rw [iV_length]; omega, hd3, fun y H4 x4 y0 yl => ?_⟩
        rw [iV_length] at yl
        have hw4 := x4.keep wl _ wd hw3
        have hD4 := x4.keep D _ nDd hD
        refine ⟨wl, _, y, _, rfl, rfl, SqL.of hw4, atI_row y0 yl, _, hD4, ?_, (x3.trans x4).grow x2.draw nD, ?_, vs ++ [at_ ws y], ?_, ?_⟩
        · rw [iV_length, lv]
          exact small_of (by omega : j ≤ 100) (by decide)
        · rw [upd_ne wD]
          exact hw4
        · rw [upd_same, iV_snoc]
        · rw [List.length_append, lv]
          rfl
      · obtain ⟨x3, hw3, vs, hD, lv⟩ := p
        rw [Int.toNat_natCast] at lv
        refine ⟨D, _, rfl, .inl ⟨SqL.of hD, fun t nt => ?_⟩⟩
        have x4 := x3.then (same_upd (o := .tup (iV vs)) nt)
        have hR4 := x4.keep R _ Rd' hR
        have hw4 := x4.keep wl _ wd hw2
        refine ⟨R, _, _, rfl, rfl, hR4, ?_, ?_⟩
        · rw [rV_length, lk]
          exact small_of (by omega : i ≤ 6) (by decide)
        · refine ⟨_, rfl, (x2.trans x4).grow hd nR, ?_, ks ++ [(t, vs)], ?_, ?_, fun p hp => ?_⟩
          · rw [upd_ne wR]
            exact hw4
          · rw [upd_same, rV_snoc]
          · rw [List.length_append, lk]
            rfl
          · rcases List.mem_append.mp hp with c | c
            · obtain ⟨z1, z2⟩ := hk p c
              exact ⟨tup_upd (x4.tup x2.draw z1) hR4, z2⟩
            · rw [List.mem_singleton.mp c]
              exact ⟨tup_upd (H := upd H3 t (.tup (iV vs))) upd_same hR4, lv⟩
    · rintro σ H2 ⟨y5, rfl, x2, hw2, ks, hR, lk, hk⟩
      refine ⟨_, rfl, ?_⟩
      refine sorted_tail (d := n) hR (fun p hp => (hk p hp).1) hn1 (fun p hp => (hk p hp).2) (by omega) fun H3 p L s3 np T3 mem nd le => ?_
      refine q H3 p L (x2.then s3) (x2.free hd np) T3 (by omega) fun r hr => ?_
      obtain ⟨z, hz, e⟩ := List.mem_map.mp ((mem r.2).mp (List.mem_map.mpr ⟨r, hr, rfl⟩))
      rw [← e]
      exact (hk z hz).2
/-- a store of a scheme -/
structure Fits6 (T : List (Addr × List (Addr × List Int))) (ws : List Int) : Prop where
  len : T.length = ws.length
  six : ∀ t ∈ T, t.2.length ≤ 6
  wid : ∀ (i : Nat) (t : Addr × List (Addr × List Int)) (x : Int), T[i]? = some t → ws[i]? = some x → ∀ r ∈ t.2, (r.2.length : Int) = x
def spStore : Sp := fun vs H Q _ => ∃ (d sc wl : Addr) (m : Nat) (xs ws : List Int), vs = [.ref d, .ref sc, .int m, .ref wl] ∧ TupAt H sc xs ∧ xs.length ≤ 6 ∧ (∀ x ∈ xs, 1 ≤ x ∧ x ≤ 7) ∧ m ≤ 6 ∧ Dr H d ∧ wl ≠ d ∧ H wl = some (.lst (iV ws)) ∧ 1 ≤ ws.length ∧
  ∀ H' p T, Ext d H H' → H p = none → StoreAt H' p T → Fits6 T xs → Q (.ref p) H'
theorem ok_store {f f1 f2 : Addr} {fd fd1 fd2 : FuncData} {k : Nat} (F : Fun K "_law_store" "_law_store" sStore f fd) (F1 : Fun K "_law_take" "_law_take" sTake f1 fd1) (b1 : Binds K fd1 ["_law_draws_here", "_law_many"] []) (m1 : mg "_law_take" = some (.ref f1))
    (F2 : Fun K "_law_rows" "_law_rows" sRows f2 fd2) (b2 : Binds K fd2 ["_law_draws_here", "_law_width", "_law_most", "_law_wide_here"] []) (m2 : mg "_law_rows" = some (.ref f2))
    (ml : mg "len" = none) (mi : mg "int" = none) (mt : mg "tuple" = none) (mr : mg "range" = none) (ms : mg "sorted" = none) (mS : mg "set" = none) : FnOk P w K mg base CX0 (k + 3) f fd ["_law_draws_here", "_law_scheme_here", "_law_most", "_law_wide_here"] spStore := by
  have G2 : FnOk P w K mg base CX0 (k + 2) f2 fd2 ["_law_draws_here", "_law_width", "_law_most", "_law_wide_here"] spRows := ok_rows F2 F1 b1 m1 ml mi mt mr ms mS
  refine F.ok scStore (fun vs H Q E h => ?_) (fun cdv A outer s H vs Q E hr h => ?_)
  · obtain ⟨d, sc, wl, m, xs, ws, e, _⟩ := h
    rw [e]
    rfl
  · obtain ⟨d, sc, wl, m, xs, ws, e, hs, h6, hx, hm, hd, wd, hw, lw, q⟩ := h
    subst e
    refine ⟨_, pss_one (ps_ret (pe_callTy call_tuple_of (by rfl) mt (by decide +kernel) (pa_cons
      (pe_lc (own := [("_law_width", 4)]) (g := gName 4) (te := tCall spRows [] E0 (tCons (tVar 0) (tCons (tVar 4) (tCons (tVar 2) (tCons (tVar 3) tNil))))) rfl scStore.nd (pi_tup (pv 1)) (blkOk_by (N := nStore) (sc := defScope sStore) (by decide +kernel))
        (fun _ _ _ _ _ => pg_name (i := 4) scStore.nd rfl (Or.inl rfl)) (fun _ _ _ _ _ => pts_nil) (fun _ _ _ _ _ => pe_call G2 hr (by rfl) m2 F2.kp b2 .nil pass0 (pa_cons (pv 0) (pa_cons (pv 4) (pa_cons (pv 2) (pa_cons (pv 3) pa_nil)))))) pa_nil))), ?_⟩
    refine ⟨_, rfl, sc, rfl, ⟨_, SqT.of hs⟩, fun D nD => lc_tup (xs := iV xs) (fun i H' => Ext d H H' ∧ H' wl = some (.lst (iV ws)) ∧ ∃ T : List (Addr × List (Addr × List Int)), H' D = some (.lst (rV T)) ∧ (∀ t ∈ T, TabAt H' t.1 t.2) ∧ Fits6 T (xs.take i))
      ⟨Ext.of hd (same_upd nD), same_upd nD _ _ hw, [], upd_same, (fun t ht => by cases ht), ⟨rfl, (fun t ht => by cases ht), (fun i t x h => by cases h)⟩⟩ (fun i H' _ p => SqT.of (p.1.tup hd hs)) (fun i x H1 hx1 p => ?_) fun H1 p => ?_⟩
    · obtain ⟨x1, hw1, T, hD, hT, f6⟩ := p
      obtain ⟨n, hn, rfl⟩ := iV_get hx1
      obtain ⟨n1, n7⟩ := hx n (List.mem_of_getElem? hn)
      obtain ⟨u, rfl⟩ : ∃ u : Nat, n = (u : Int) := ⟨n.toNat, by omega⟩
      have hlt : i < xs.length := (List.getElem?_eq_some_iff.mp hn).1
      have lT : T.length = i := by
        rw [f6.len, List.length_take]
        omega
      have nDd : D ≠ d := fun z => by
        obtain ⟨ds, q⟩ := hd
        rw [z, q] at nD
        cases nD
      have wD : wl ≠ D := ne_of_none hw nD
      refine ⟨rfl, yes_turn ?_⟩
      refine ⟨_, rfl, _, rfl, _, rfl, _, rfl, d, wl, u, m, ws, rfl, by omega, by omega, hm, x1.draw, wd, hw1, lw, fun H2 p L x2 np T2 l6 wid => ?_⟩
      have hD2 := x2.keep D _ nDd hD
      refine ⟨_, hD2, ?_, (x1.trans x2).grow hd nD, ?_, T ++ [(p, L)], ?_, fun t ht => ?_, ?_, fun t ht => ?_, fun j t y hj hy => ?_⟩
      · rw [rV_length, lT]
        exact small_of (by omega : i ≤ 6) (by decide)
      · rw [upd_ne wD]
        exact x2.keep wl _ wd hw1
      · rw [upd_same, rV_snoc]
      · rcases List.mem_append.mp ht with c | c
        · have z := hT t c
          exact TabAt.updL ⟨x2.tup x1.draw z.tab, fun r hr => x2.tup x1.draw (z.row r hr)⟩ hD2
        · rw [List.mem_singleton.mp c]
          exact T2.updL hD2
      · rw [List.length_append, lT, List.length_take]
        show i + 1 = _
        omega
      · rcases List.mem_append.mp ht with c | c
        · exact f6.six t c
        · rw [List.mem_singleton.mp c]
          exact l6
      · rw [take_snoc hn] at hy
        rcases Nat.lt_or_ge j i with c | c
        · rw [List.getElem?_append_left (by omega)] at hj
          rw [List.getElem?_append_left (by rw [List.length_take]; omega)] at hy
          exact f6.wid j t y hj hy
        · have j0 : j = i := by
            have := (List.getElem?_eq_some_iff.mp hj).1
            rw [List.length_append, lT] at this
            have : j < i + 1 := this
            omega
          subst j0
          rw [List.getElem?_append_right (by omega), lT, Nat.sub_self] at hj
          rw [List.getElem?_append_right (by rw [List.length_take]; omega), List.length_take, Nat.min_eq_left (by omega), Nat.sub_self] at hy
          have e1 : (p, L) = t := Option.some.inj hj
          have e2 : (u : Int) = y := Option.some.inj hy
          rw [← e1, ← e2]
          exact fun r hr => by rw [wid r hr]
    · obtain ⟨x1, hw1, T, hD, hT, f6⟩ := p
      rw [iV_length, List.take_length] at f6
      refine ⟨D, _, rfl, .inl ⟨SqL.of hD, fun t nt => ?_⟩⟩
      exact q _ t T (x1.then (same_upd nt)) (x1.free hd nt) ⟨upd_same, fun z hz => (hT z hz).same (same_upd nt)⟩ f6
def spLAgree : Sp := fun vs H Q _ => ∃ (a b c : Addr) (r r2 cs : List Int), vs = [.ref a, .ref b, .ref c] ∧ TupAt H a r ∧ TupAt H b r2 ∧ TupAt H c cs ∧ InW r.length cs ∧ InW r2.length cs ∧ cs.length ≤ 100 ∧
  ∀ H', Same H H' → Q (.bl (decide (pick r cs = pick r2 cs))) H'
theorem ok_lagree {f : Addr} {fd : FuncData} {k : Nat} (F : Fun K "_law_agree" "_law_agree" sLAgree f fd) : FnOk P w K mg base CX0 (k + 1) f fd ["_law_one", "_law_other", "_law_columns_here"] spLAgree := by
  refine F.ok scLAgree (fun vs H Q E h => ?_) (fun cdv A outer s H vs Q E hr h => ?_)
  · obtain ⟨a, b, c, r, r2, cs, e, _⟩ := h
    rw [e]
    rfl
  · obtain ⟨a, b, c, r, r2, cs, e, ha, hb, hc, hi, hi2, hlen, q⟩ := h
    subst e
    refine ⟨_, pss_one (ps_ret (pe_cmpR (op_eqD hr.units)
      (pe_lc (own := [("_law_column", 3)]) (g := gName 3) (te := tOp (rIxT K) (tVar 0) (tVar 3)) rfl scLAgree.nd (pi_tup (pv 2)) (blkOk_by (N := nLAgree) (sc := defScope sLAgree) (by decide +kernel)) (fun _ _ _ _ _ => pg_name (i := 3) scLAgree.nd rfl (Or.inl rfl)) (fun _ _ _ _ _ => pts_nil) (fun _ _ _ _ _ => pe_ix ix_tup (pv 0) (pv 3) (fun _ _ => rfl)))
      (pe_lc (own := [("_law_column", 3)]) (g := gName 3) (te := tOp (rIxT K) (tVar 1) (tVar 3)) rfl scLAgree.nd (pi_tup (pv 2)) (blkOk_by (N := nLAgree) (sc := defScope sLAgree) (by decide +kernel)) (fun _ _ _ _ _ => pg_name (i := 3) scLAgree.nd rfl (Or.inl rfl)) (fun _ _ _ _ _ => pts_nil) (fun _ _ _ _ _ => pe_ix ix_tup (pv 1) (pv 3) (fun _ _ => rfl))) (nomark _))), ?_⟩
    have turn : ∀ (H0 H1 : Hp) (D x : Addr) (ra : List Int) (i : Nat) (n : Int), Same H0 H1 → H0 D = none → TupAt H1 x ra → InW ra.length cs → cs[i]? = some n → H1 D = some (.lst (iV ((pick ra cs).take i))) →
        ∃ acc, H1 D = some (.lst acc) ∧ acc.length < sizeLine ∧ Same H0 (upd H1 D (.lst (acc ++ [.int (at_ ra n)]))) ∧ (upd H1 D (.lst (acc ++ [.int (at_ ra n)]))) D = some (.lst (iV ((pick ra cs).take (i + 1)))) := fun H0 H1 D x ra i n s1 nD hx hin hn hD => by
      have e : (pick ra cs)[i]? = some (at_ ra n) := by
        unfold pick
        rw [List.getElem?_map, hn]
        rfl
      refine ⟨_, hD, ?_, same_grow s1 nD, by rw [upd_same, iV_grow e]⟩
      rw [iV_length, List.length_take, pick_length]
      exact small_of (Nat.le_trans (Nat.min_le_right _ _) hlen) (by decide)
    have el : ∀ ra : List Int, (iV cs).length = (pick ra cs).length := fun ra => by rw [iV_length, pick_length]
    refine ⟨_, rfl, c, rfl, ⟨_, SqT.of hc⟩, fun D nD => lc_tup (xs := iV cs) (fun i H' => Same H H' ∧ H' D = some (.lst (iV ((pick r cs).take i)))) ⟨same_upd nD, upd_same⟩ (fun i H' _ p => SqT.of (p.1 _ _ hc)) (fun i x H1 hx p => ?_) fun H1 p => ?_⟩
    · obtain ⟨n, hn, rfl⟩ := iV_get hx
      obtain ⟨h0, h1⟩ := hi n (List.mem_of_getElem? hn)
      refine ⟨rfl, yes_turn ?_⟩
      exact ⟨_, rfl, _, rfl, a, _, n, _, rfl, rfl, SqT.of (p.1 _ _ ha), atI_row h0 h1, turn H H1 D a r i n p.1 nD (p.1 _ _ ha) hi hn p.2⟩
    obtain ⟨s1, hD⟩ := p
    rw [el r, List.take_length] at hD
    refine ⟨_, rfl, c, rfl, ⟨_, SqT.of (s1 _ _ hc)⟩, fun D2 nD2 => lc_tup (xs := iV cs) (fun i H' => Same H1 H' ∧ H' D2 = some (.lst (iV ((pick r2 cs).take i)))) ⟨same_upd nD2, upd_same⟩ (fun i H' _ p => SqT.of ((s1.trans p.1) _ _ hc)) (fun i x H2 hx p => ?_) fun H2 p => ?_⟩
    · obtain ⟨n, hn, rfl⟩ := iV_get hx
      obtain ⟨h0, h1⟩ := hi2 n (List.mem_of_getElem? hn)
      have hb2 := (s1.trans p.1) _ _ hb
      refine ⟨rfl, yes_turn ?_⟩
      exact ⟨_, rfl, _, rfl, b, _, n, _, rfl, rfl, SqT.of hb2, atI_row h0 h1, turn H1 H2 D2 b r2 i n p.1 nD2 hb2 hi2 hn p.2⟩
    obtain ⟨s2, hD2⟩ := p
    rw [el r2, List.take_length] at hD2
    exact eqD_lst (s2 _ _ hD) hD2 (q _ (s1.trans s2))
def spThinned : Sp := fun vs H Q _ => ∃ (n : Nat) (a l r : Addr) (L : List (Addr × List Int)) (ls rs : List Int), vs = [.ref a, .ref l, .ref r] ∧ Asked H n a l r L ls rs ∧
  ∀ H' p, Same H H' → H p = none → TabAt H' p (thin (·.2) ls rs L) → Q (.ref p) H'
theorem ok_thinned {f f1 : Addr} {fd fd1 : FuncData} {k : Nat} (F : Fun K "_law_thinned" "_law_thinned" sThinned f fd) (F1 : Fun K "_law_agree" "_law_agree" sLAgree f1 fd1) (b1 : Binds K fd1 ["_law_one", "_law_other", "_law_columns_here"] []) (m1 : mg "_law_agree" = some (.ref f1))
    (ml : mg "len" = none) (mt : mg "tuple" = none) : FnOk P w K mg base CX0 (k + 2) f fd ["_law_rows_here", "_law_left", "_law_right"] spThinned := by
  have G1 : FnOk P w K mg base CX0 (k + 1) f1 fd1 ["_law_one", "_law_other", "_law_columns_here"] spLAgree := ok_lagree F1
  refine F.ok scThinned (fun vs H Q E h => ?_) (fun cdv A outer s H vs Q E hr h => ?_)
  · obtain ⟨n, a, l, r, L, ls, rs, e, _⟩ := h
    rw [e]
    rfl
  · obtain ⟨n, a, l, r, L, ls, rs, e, hA, q⟩ := h
    subst e
    refine ⟨_, pss_cons (ps_set (i := 3) scThinned.nd rfl (.inl rfl) (pe_lst pa_nil))
      (pss_cons (ps_for PassesOwn.never rfl (pi_tup (pv 0)) (pg_name (i := 4) scThinned.nd rfl (Or.inr rfl))
        (pss_cons (ps_setLc (i := 5) (own := [("_law_one", 6)]) (g := gName 6) (tt := tAnd (tB (tCall spLAgree [] E0 (tCons (tVar 6) (tCons (tVar 4) (tCons (tVar 1) tNil))))) (tNot (tB (tCall spLAgree [] E0 (tCons (tVar 6) (tCons (tVar 4) (tCons (tVar 2) tNil))))))) (te := tVar 6) rfl scThinned.nd rfl rfl (sw_true rfl rfl rfl (by decide +kernel)) (pi_list (pv 3))
            (blkOk_by (N := nThinned) (sc := defScope sThinned) (by decide +kernel)) (fun _ _ _ _ _ => pg_name (i := 6) scThinned.nd rfl (Or.inl rfl))
            (fun _ _ _ _ _ => pts_one (PW.pt (pw_and (pt_val (pe_call G1 hr (by rfl) m1 F1.kp b1 .nil pass0 (pa_cons (pv 6) (pa_cons (pv 4) (pa_cons (pv 1) pa_nil))))) (pw_and1 (pt_not (pt_val (pe_call G1 hr (by rfl) m1 F1.kp b1 .nil pass0 (pa_cons (pv 6) (pa_cons (pv 4) (pa_cons (pv 2) pa_nil)))))))))) (fun _ _ _ _ _ => pv 6))
        (pss_one (ps_if (pt_cmpR op_eq (pe_callB call_len_seq (by rfl) ml (by decide +kernel) (pa_cons (pv 5) pa_nil)) pe_int (nomark _)) (pss_one (ps_expr (pe_bm PySem.F.plainAttrs_list PySem.F.slot_list_append PySem.F.type_list_append mt_append (pv 3) (pa_cons (pv 4) pa_nil)))) pss_nil))))
      (pss_one (ps_ret (pe_callTy call_tuple_of (by rfl) mt (by decide +kernel) (pa_cons (pv 3) pa_nil))))), ?_⟩
    refine ⟨Nat.zero_le _, fun G nG => ?_⟩
    have lthin : ∀ i, (thin (·.2) ls rs (L.take i)).length ≤ 63 := fun i => by
      have z := thin_length (·.2) ls rs (L.take i)
      rw [List.length_take] at z
      have := hA.few
      omega
    have inThin : ∀ i, ∀ p ∈ thin (·.2) ls rs (L.take i), p ∈ L := fun i p hp => List.mem_of_mem_take (thin_sub (·.2) ls rs _ p hp)
    refine ⟨_, rfl, a, rfl, ⟨_, SqT.of (same_upd nG _ _ hA.tab.tab)⟩, for_tup (xs := rV L) (fun i σ H' => ∃ y4 y5 : Option V, σ = [some (.ref a), some (.ref l), some (.ref r), some (.ref G), y4, y5, none] ∧ Same H H' ∧ H' G = some (.lst (rV (thin (·.2) ls rs (L.take i)))))
      ⟨none, none, rfl, same_upd nG, upd_same⟩ (fun i σ H' _ ⟨_, _, _, s1, _⟩ => SqT.of (s1 _ _ hA.tab.tab)) ?_ ?_⟩
    · rintro i x σ H1 hx ⟨y4, y5, rfl, s1, hG⟩
      obtain ⟨p, hp, rfl⟩ := rV_get hx
      have mp : p ∈ L := List.mem_of_getElem? hp
      have A1 := hA.same s1
      generalize hks : thin (·.2) ls rs (L.take i) = ks at hG
      have kin : ∀ z ∈ ks, z ∈ L := fun z hz => inThin i z (by rw [hks]; exact hz)
      have k63 : ks.length ≤ 63 := by rw [← hks]; exact lthin i
      refine ⟨_, rfl, G, rfl, ⟨_, SqL.of hG⟩, fun D nD => lc_list (xs := rV ks) (fun j H' => Same H1 H' ∧ H' D = some (.lst (rV ((ks.take j).filter (unlike (·.2) ls rs p))))) ⟨same_upd nD, upd_same⟩ (fun j H' _ q => SqL.of (q.1 _ _ hG)) (fun j x H2 hx2 q2 => ?_) fun H2 q2 => ?_⟩
      · obtain ⟨s2, hD⟩ := q2
        obtain ⟨z, hz, rfl⟩ := rV_get hx2
        have mz : z ∈ L := kin z (List.mem_of_getElem? hz)
        have A2 := A1.same s2
        have wp := hA.wide p mp
        have wz := hA.wide z mz
        have add : ∀ H5, Same H2 H5 → unlike (·.2) ls rs p z = true → ∃ acc, H5 D = some (.lst acc) ∧ acc.length < sizeLine ∧ Same H1 (upd H5 D (.lst (acc ++ [.ref z.1]))) ∧ (upd H5 D (.lst (acc ++ [.ref z.1]))) D = some (.lst (rV ((ks.take (j + 1)).filter (unlike (·.2) ls rs p)))) := fun H5 s5 hu => by
          refine ⟨_, s5 _ _ hD, ?_, same_grow (s2.trans s5) nD, ?_⟩
          · rw [rV_length]
            exact small_of (filt_len ks j _ k63) (by decide)
          · rw [upd_same, filt_take _ hz, if_pos hu, rV_snoc]
        have leave : ∀ H5, Same H2 H5 → ¬ unlike (·.2) ls rs p z = true → Same H1 H5 ∧ H5 D = some (.lst (rV ((ks.take (j + 1)).filter (unlike (·.2) ls rs p)))) := fun H5 s5 hu => by
          refine ⟨s2.trans s5, ?_⟩
          rw [filt_take _ hz, if_neg hu, List.append_nil]
          exact s5 _ _ hD
        refine ⟨rfl, ?_⟩
        refine ⟨_, rfl, _, rfl, _, rfl, z.1, p.1, l, z.2, p.2, ls, rfl, A2.tab.row z mz, A2.tab.row p mp, A2.left, by rw [wz]; exact hA.inL, by rw [wp]; exact hA.inL, hA.smL, fun H3 s3 => ⟨_, rfl, ?_⟩⟩
        have A3 := A2.same s3
        refine ite2 (fun h1 => ?_) (fun h1 => ?_)
        · refine ⟨_, rfl, _, rfl, _, rfl, z.1, p.1, r, z.2, p.2, rs, rfl, A3.tab.row z mz, A3.tab.row p mp, A3.right, by rw [wz]; exact hA.inR, by rw [wp]; exact hA.inR, hA.smR, fun H4 s4 => ⟨_, rfl, ?_⟩⟩
          have eu : unlike (·.2) ls rs p z = !decide (pick z.2 rs = pick p.2 rs) := by
            unfold unlike
            rw [h1, Bool.true_and]
          refine ite2 (fun h2 => ?_) (fun h2 => ?_)
          · exact ⟨_, rfl, add H4 (s3.trans s4) (eu.trans h2)⟩
          · exact leave H4 (s3.trans s4) fun c => h2 (eu.symm.trans c)
        · have eu : ¬ unlike (·.2) ls rs p z = true := fun c => by
            unfold unlike at c
            rw [Bool.eq_false_iff.mpr h1, Bool.false_and] at c
            cases c
          exact iteF (leave H3 s3 eu)
      · obtain ⟨s2, hD⟩ := q2
        rw [rV_length, List.take_length] at hD
        have hG2 := s2 _ _ hG
        have step : thin (·.2) ls rs (L.take (i + 1)) = if (ks.filter (unlike (·.2) ls rs p)).isEmpty then ks ++ [p] else ks := by
          rw [thin_take (·.2) ls rs L i p hp, hks]
          rfl
        refine ⟨_, rfl, D, _, rfl, .inl (SqL.of hD), rfl, _, rfl, ite2 (fun e => ?_) (fun e => ?_)⟩
        · have e0 : ((rV (ks.filter (unlike (·.2) ls rs p))).length : Int) = 0 := V.int.inj (of_decide_eq_true e)
          have none_ : ks.filter (unlike (·.2) ls rs p) = [] := by
            rw [rV_length] at e0
            exact List.length_eq_zero_iff.mp (by omega)
          rw [none_, List.isEmpty_nil, if_pos rfl] at step
          refine ⟨_, rfl, .inl ⟨rfl, _, SqL.of hG2⟩, _, rfl, G, _, _, rfl, rfl, hG2, ?_, ?_⟩
          · rw [rV_length]
            exact small_of k63 (by decide)
          · refine ⟨_, _, rfl, same_grow (s1.trans s2) nG, ?_⟩
            rw [upd_same, step, rV_snoc]
        · have some_ : ¬ (ks.filter (unlike (·.2) ls rs p)).isEmpty = true := fun c => e (by rw [List.isEmpty_iff.mp c]; rfl)
          rw [if_neg some_] at step
          refine ⟨_, _, rfl, s1.trans s2, ?_⟩
          rw [step]
          exact hG2
    · rintro σ H1 ⟨y4, y5, rfl, s1, hG⟩
      rw [rV_length, List.take_length] at hG
      refine ⟨_, rfl, G, _, rfl, .inl ⟨SqL.of hG, fun t nt => ?_⟩⟩
      have s2 := s1.trans (same_upd (o := .tup (rV (thin (·.2) ls rs L))) nt)
      exact q _ t s2 (s1.free nt) ⟨upd_same, fun p hp => s2 _ _ (hA.tab.row p (thin_sub (·.2) ls rs L p hp))⟩
end
end N22
set_option Elab.async false
set_option linter.all false
set_option maxRecDepth 100000
set_option maxHeartbeats 4000000
/-! The six dependencies of a turn: the same answer. -/
namespace N22
open PySem PySem.Spec PyProof.Rows L2
def fz : Addr × List Int → Bool := fun p => decide (0 < p.2.length)
/-- what the turn's column lists are -/
structure Cols (n : Nat) (ls rs bs es us gs ps : List Int) : Prop where
  n1 : 1 ≤ n
  n7 : n ≤ 7
  inL : InW n ls
  inR : InW n rs
  lenL : ls.length ≤ n
  lenR : rs.length ≤ n
  bm : ∀ k : Int, k ∈ bs ↔ (0 ≤ k ∧ k < (n : Int)) ∧ (k ∈ ls ∨ k ∈ rs)
  bl : bs.length ≤ 7
  bn : bs.Nodup
  em : ∀ k : Int, k ∈ es ↔ (0 ≤ k ∧ k < (n : Int)) ∧ ¬ k ∈ bs
  el : es.length ≤ 7
  um : ∀ k : Int, k ∈ us ↔ k ∈ rs ∧ ¬ k ∈ ls
  ul : us.length ≤ 7
  gm : ∀ k : Int, k ∈ gs ↔ (0 ≤ k ∧ k < (n : Int)) ∧ (¬ k ∈ rs ∨ k ∈ ls)
  gl : gs.length ≤ 7
  pm : ∀ k : Int, k ∈ ps ↔ k ∈ ls ∨ k ∈ es
  pl : ps.length ≤ 14
  pn : ps.Nodup
section
variable {n : Nat} {ls rs bs es us gs ps : List Int}
theorem Cols.inB (c : Cols n ls rs bs es us gs ps) : InW n bs := fun k h => ((c.bm k).mp h).1
theorem Cols.inE (c : Cols n ls rs bs es us gs ps) : InW n es := fun k h => ((c.em k).mp h).1
theorem Cols.inU (c : Cols n ls rs bs es us gs ps) : InW n us := fun k h => c.inR k ((c.um k).mp h).1
theorem Cols.inG (c : Cols n ls rs bs es us gs ps) : InW n gs := fun k h => ((c.gm k).mp h).1
theorem Cols.inP (c : Cols n ls rs bs es us gs ps) : InW n ps := fun k h => ((c.pm k).mp h).elim (c.inL k) (c.inE k)
variable {R : List (List Int)}
theorem Cols.dB (c : Cols n ls rs bs es us gs ps) : Deals n R ls bs ↔ Deals n R ls rs := deals_congr fun k h0 h1 => by
  rw [c.bm k]
  constructor
  · rintro (h | ⟨_, h⟩)
    · exact .inl h
    · exact h
  · rintro (h | h)
    · exact .inl h
    · exact .inr ⟨⟨h0, h1⟩, .inr h⟩
theorem Cols.dU (c : Cols n ls rs bs es us gs ps) : Deals n R ls us ↔ Deals n R ls rs := deals_congr fun k h0 h1 => by
  rw [c.um k]
  constructor
  · rintro (h | ⟨h, _⟩)
    · exact .inl h
    · exact .inr h
  · rintro (h | h)
    · exact .inl h
    · by_cases z : k ∈ ls
      · exact .inl z
      · exact .inr ⟨h, z⟩
theorem Cols.dE (c : Cols n ls rs bs es us gs ps) : Deals n R ls es ↔ Deals n R ls rs := (deals_swap c.inL fun k h0 h1 hk => by
  rw [c.em k, c.bm k]
  constructor
  · rintro ⟨_, h⟩ z
    exact h ⟨⟨h0, h1⟩, .inr z⟩
  · intro h
    exact ⟨⟨h0, h1⟩, fun z => z.2.elim hk h⟩).symm
theorem Cols.dG (c : Cols n ls rs bs es us gs ps) : Deals n R ls gs ↔ Deals n R ls rs := (deals_swap c.inL fun k h0 h1 hk => by
  rw [c.gm k]
  constructor
  · rintro ⟨_, h⟩
    exact h.elim id fun z => absurd z hk
  · intro h
    exact ⟨⟨h0, h1⟩, .inl h⟩).symm
theorem parts_mem {b pt : Addr} {p : Addr × List Int} : p ∈ ([(b, bs), (pt, ps)].filter fz) ↔ (p = (b, bs) ∨ p = (pt, ps)) ∧ 0 < p.2.length := by
  rw [List.mem_filter, List.mem_cons, List.mem_singleton]
  unfold fz
  rw [decide_eq_true_eq]
theorem Cols.dJ (c : Cols n ls rs bs es us gs ps) {b pt : Addr} : Joins n R (([(b, bs), (pt, ps)].filter fz).map (·.2)) ↔ Deals n R ls rs := by
  refine joins_deals c.n1 c.inL c.inB c.inP (fun k h0 h1 => ?_) (fun k h0 h1 => ?_) fun s => ?_
  · rw [c.bm k]
    exact ⟨fun h => h.2, fun h => ⟨⟨h0, h1⟩, h⟩⟩
  · rw [c.pm k, c.em k, c.bm k]
    constructor
    · rintro (h | ⟨_, h⟩)
      · exact .inl h
      · exact .inr fun z => h ⟨⟨h0, h1⟩, .inr z⟩
    · rintro (h | h)
      · exact .inl h
      · by_cases z : k ∈ ls
        · exact .inl z
        · exact .inr ⟨⟨h0, h1⟩, fun y => y.2.elim z h⟩
  · rw [List.mem_map]
    constructor
    · rintro ⟨p, hp, rfl⟩
      obtain ⟨h1, h2⟩ := parts_mem.mp hp
      refine ⟨h1.imp (fun e => by rw [e]) (fun e => by rw [e]), fun e => ?_⟩
      rw [e] at h2
      exact Nat.lt_irrefl 0 h2
    · rintro ⟨h1, h2⟩
      rcases h1 with rfl | rfl
      · exact ⟨(b, s), parts_mem.mpr ⟨.inl rfl, List.length_pos_iff.mpr h2⟩, rfl⟩
      · exact ⟨(pt, s), parts_mem.mpr ⟨.inr rfl, List.length_pos_iff.mpr h2⟩, rfl⟩
theorem parts_two (b pt : Addr) : ([(b, bs), (pt, ps)].filter fz).length ≤ 2 := List.length_filter_le _ _
theorem Cols.ask (c : Cols n ls rs bs es us gs ps) {H : Hp} {tb pp b pt : Addr} {L : List (Addr × List Int)} (ht : TabAt H tb L) (wid : ∀ r ∈ L, r.2.length = n) (six : L.length ≤ 6) (hp : H pp = some (.tup (rV ([(b, bs), (pt, ps)].filter fz)))) (hb : TupAt H b bs) (hq : TupAt H pt ps) :
    JAsk H n tb pp L ([(b, bs), (pt, ps)].filter fz) := by
  refine ⟨ht, ⟨hp, fun p h => ?_⟩, wid, six, parts_two b pt, c.n1, Nat.le_trans c.n7 (by decide), fun p h e => ?_, fun p h => ?_, fun p h => ?_, fun p h => ?_, fun k h0 h1 => ?_⟩
  · rcases (parts_mem.mp h).1 with rfl | rfl
    · exact hb
    · exact hq
  · have z := (parts_mem.mp h).2
    rw [e] at z
    exact Nat.lt_irrefl 0 z
  · rcases (parts_mem.mp h).1 with rfl | rfl
    · exact c.inB
    · exact c.inP
  · rcases (parts_mem.mp h).1 with rfl | rfl
    · exact c.bn
    · exact c.pn
  · rcases (parts_mem.mp h).1 with rfl | rfl
    · exact Nat.le_trans c.bl (by decide)
    · exact Nat.le_trans c.pl (by decide)
  · by_cases z : k ∈ bs
    · exact ⟨(b, bs), parts_mem.mpr ⟨.inl rfl, List.length_pos_of_mem z⟩, z⟩
    · have y : k ∈ ps := (c.pm k).mpr (.inr ((c.em k).mpr ⟨⟨h0, h1⟩, z⟩))
      exact ⟨(pt, ps), parts_mem.mpr ⟨.inr rfl, List.length_pos_of_mem y⟩, y⟩
end
/-- tuples stand where no tuple is changed -/
def Tups (H H' : Hp) : Prop := ∀ b xs, H b = some (.tup xs) → H' b = some (.tup xs)
theorem tups_upd {H : Hp} {D : Addr} {xs : List V} {o : HO} (hD : H D = some (.lst xs)) : Tups H (upd H D o) := fun b ys h => by
  rw [upd_ne (ne_of h hD (by intro z; cases z))]
  exact h
theorem Tups.of {H H' : Hp} (s : Same H H') : Tups H H' := fun b xs h => s b _ h
theorem Tups.trans {H H1 H2 : Hp} (a : Tups H H1) (b : Tups H1 H2) : Tups H H2 := fun c xs h => b c xs (a c xs h)
theorem TabAt.tups {H H' : Hp} {a : Addr} {L : List (Addr × List Int)} (q : TabAt H a L) (s : Tups H H') : TabAt H' a L := ⟨s _ _ q.tab, fun r hr => s _ _ (q.row r hr)⟩
theorem StoreAt.tups {H H' : Hp} {a : Addr} {T : List (Addr × List (Addr × List Int))} (q : StoreAt H a T) (s : Tups H H') : StoreAt H' a T := ⟨s _ _ q.tup, fun t ht => (q.tab t ht).tups s⟩
abbrev depsOf (e0 e1 e2 e3 e4 e5 : Addr) (ls rs bs us es gs : List Int) (pa : List (List Int)) : List (Addr × Dep) :=
  [(e0, .deals ls rs), (e1, .deals ls bs), (e2, .deals ls us), (e3, .deals ls es), (e4, .deals ls gs), (e5, .joins pa)]
section
variable {n : Nat} {ls rs bs es us gs ps : List Int}
theorem Cols.all (c : Cols n ls rs bs es us gs ps) {R : List (List Int)} {e0 e1 e2 e3 e4 e5 b pt : Addr} : ∀ y ∈ depsOf e0 e1 e2 e3 e4 e5 ls rs bs us es gs (([(b, bs), (pt, ps)].filter fz).map (·.2)), DepHolds n R y.2 ↔ Deals n R ls rs := by
  intro y hy
  simp only [List.mem_cons, List.not_mem_nil, or_false] at hy
  rcases hy with rfl | rfl | rfl | rfl | rfl | rfl
  · exact Iff.rfl
  · exact c.dB
  · exact c.dU
  · exact c.dE
  · exact c.dG
  · exact c.dJ
abbrev dealsT (t : Nat) (l x : Addr) : HO := .tup [.str "deals", .int (t : Int), .ref l, .ref x]
theorem Cols.stand (c : Cols n ls rs bs es us gs ps) {H : Hp} {tb pp b pt e g u l r : Addr} {L : List (Addr × List Int)} {e0 e1 e2 e3 e4 e5 : Addr} {t : Nat} (ht : TabAt H tb L) (wid : ∀ r ∈ L, r.2.length = n) (six : L.length ≤ 6)
    (hp : H pp = some (.tup (rV ([(b, bs), (pt, ps)].filter fz)))) (hb : TupAt H b bs) (hq : TupAt H pt ps) (hl : TupAt H l ls) (hr : TupAt H r rs) (he : TupAt H e es) (hu : TupAt H u us) (hg : TupAt H g gs)
    (h0 : H e0 = some (.tup [.str "deals", .int (t : Int), .ref l, .ref r])) (h1 : H e1 = some (.tup [.str "deals", .int (t : Int), .ref l, .ref b])) (h2 : H e2 = some (.tup [.str "deals", .int (t : Int), .ref l, .ref u]))
    (h3 : H e3 = some (.tup [.str "deals", .int (t : Int), .ref l, .ref e])) (h4 : H e4 = some (.tup [.str "deals", .int (t : Int), .ref l, .ref g])) (h5 : H e5 = some (.tup [.str "joins", .int (t : Int), .ref pp])) :
    ∀ y ∈ depsOf e0 e1 e2 e3 e4 e5 ls rs bs us es gs (([(b, bs), (pt, ps)].filter fz).map (·.2)), DepAt H y.1 t n tb L y.2 := by
  have asked : ∀ x xs, TupAt H x xs → InW n xs → xs.length ≤ 7 → Asked H n tb l x L ls xs := fun x xs q1 q2 q3 =>
    ⟨ht, hl, q1, wid, c.inL, q2, by have := c.lenL; have := c.n7; omega, by omega, by have := c.n7; omega, by omega⟩
  intro y hy
  simp only [List.mem_cons, List.not_mem_nil, or_false] at hy
  rcases hy with rfl | rfl | rfl | rfl | rfl | rfl
  · exact ⟨l, r, h0, asked r rs hr c.inR (Nat.le_trans c.lenR c.n7)⟩
  · exact ⟨l, b, h1, asked b bs hb c.inB c.bl⟩
  · exact ⟨l, u, h2, asked u us hu c.inU c.ul⟩
  · exact ⟨l, e, h3, asked e es he c.inE c.el⟩
  · exact ⟨l, g, h4, asked g gs hg c.inG c.gl⟩
  · exact ⟨pp, _, h5, c.ask ht wid six hp hb hq, rfl⟩
end
/-- tuple(sorted(set(t))), t a tuple of ints -/
theorem sortedI_tail {K : PySem.W.Frag} {w : World} {H : Hp} {z : Addr} {ns : List Int} {Q : VK} (hz : TupAt H z ns) (hl : ns.length ≤ 63) (q : ∀ H' t ps, Same H H' → TupAt H' t ps → ps.Nodup → (∀ k : Int, k ∈ ps ↔ k ∈ ns) → ps.length ≤ ns.length → Q (.ref t) H') :
    rSetI K w [V.ref z] H fun x H1 => rSortedSet w [x] H1 fun y H2 => rTupOf K [y] H2 Q := by
  refine ⟨z, ns, rfl, SqT.of hz, Nat.le_trans hl (by decide), fun S n' nS hn' => ?_⟩
  refine ⟨S, _, n', rfl, upd_same, by omega, fun ps lp sorted mem len' nlp => ?_⟩
  refine ⟨lp, _, rfl, .inl ⟨SqL.of upd_same, fun pt npt => ?_⟩⟩
  refine q _ pt ps (((same_upd nS).trans (same_upd nlp)).trans (same_upd npt)) upd_same (sorted.imp fun h => Int.ne_of_lt h) (fun k => ?_) (by omega)
  rw [mem k]
  show decide (k ∈ ns) = true ↔ _
  rw [decide_eq_true_eq]
/-- a store with one table put in another's place -/
theorem StoreAt.swap {H : Hp} {st th tp : Addr} {T : List (Addr × List (Addr × List Int))} {t : Nat} {L' : List (Addr × List Int)} (hst : StoreAt H st T) (ht : t < T.length) (h1 : TabAt H tp L') (hth : H th = some (.tup ((rV (T.take t) ++ [.ref tp]) ++ rV (T.drop (t + 1))))) :
    StoreAt H th (T.take t ++ [(tp, L')] ++ T.drop (t + 1)) ∧ (T.take t ++ [(tp, L')] ++ T.drop (t + 1))[t]? = some (tp, L') := by
  have lt : (T.take t).length = t := by
    rw [List.length_take]
    exact Nat.min_eq_left (Nat.le_of_lt ht)
  refine ⟨⟨?_, fun q hq => ?_⟩, ?_⟩
  · rw [hth]
    show _ = some (HO.tup ((T.take t ++ [(tp, L')] ++ T.drop (t + 1)).map fun p => V.ref p.1))
    rw [List.map_append, List.map_append]
    rfl
  · rcases List.mem_append.mp hq with c | c
    · rcases List.mem_append.mp c with c | c
      · exact hst.tab q (List.mem_of_mem_take c)
      · rw [List.mem_singleton.mp c]
        exact h1
    · exact hst.tab q (List.mem_of_mem_drop c)
  · rw [List.append_assoc, List.getElem?_append_right (by omega), lt, Nat.sub_self]
    rfl
theorem Asked.other {H : Hp} {n : Nat} {a a' l r : Addr} {L L' : List (Addr × List Int)} {ls rs : List Int} (q : Asked H n a l r L ls rs) (h : TabAt H a' L') (sub : ∀ p ∈ L', p ∈ L) (le : L'.length ≤ L.length) : Asked H n a' l r L' ls rs :=
  ⟨h, q.left, q.right, fun p hp => q.wide p (sub p hp), q.inL, q.inR, q.smL, q.smR, q.smN, Nat.lt_of_le_of_lt le q.few⟩
theorem part_of_take {α : Type} {T : List (Addr × α)} {t : Nat} (ht : t < T.length) : ¬ (HT.sIx (rV T).length 0 none = 0 ∧ HT.sIx (rV T).length (rV T).length (some (t : Int)) = (rV T).length) := fun h => by
  have z := h.2
  rw [HT.sIx_nat, rV_length] at z
  omega
theorem part_of_drop {α : Type} {T : List (Addr × α)} {t : Nat} (ht : t < T.length) : ¬ (HT.sIx (rV T).length 0 (some ((t + 1 : Nat) : Int)) = 0 ∧ HT.sIx (rV T).length (rV T).length none = (rV T).length) := fun h => by
  have z := h.1
  rw [HT.sIx_nat, rV_length] at z
  omega
/-- a truth that the walk need not decide -/
theorem some_bool (p : Prop) : ∃ b : Bool, b = true ↔ p := by
  by_cases h : p
  · exact ⟨true, fun _ => h, fun _ => rfl⟩
  · exact ⟨false, fun z => absurd z Bool.false_ne_true, fun z => absurd z h⟩
theorem bool_eq {a b : Bool} {p : Prop} (h1 : a = true ↔ p) (h2 : b = true ↔ p) : a = b := Bool.eq_iff_iff.mpr (h1.trans h2.symm)
end N22
set_option Elab.async false
set_option linter.all false
set_option maxRecDepth 100000
set_option maxHeartbeats 4000000
/-! The law: its term. -/
namespace N22
open PySem PySem.Spec PyProof.Rows L2
/-! ### helpers -/
def upto (n : Nat) : List Int := (List.range n).map fun (c : Nat) => (c : Int)
theorem upto_length (n : Nat) : (upto n).length = n := by
  unfold upto
  rw [List.length_map, List.length_range]
theorem upto_mem {n : Nat} {c : Int} : c ∈ upto n ↔ 0 ≤ c ∧ c < (n : Int) := by
  unfold upto
  rw [List.mem_map]
  constructor
  · rintro ⟨x, hx, rfl⟩
    have := List.mem_range.mp hx
    omega
  · rintro ⟨h0, h1⟩
    exact ⟨c.toNat, List.mem_range.mpr (by omega), by omega⟩
theorem upto_nodup (n : Nat) : (upto n).Nodup := by
  unfold upto
  exact List.pairwise_map.mpr (List.Pairwise.imp (fun {a b} h e => h (by omega)) List.nodup_range)
theorem upto_get {n i : Nat} (h : i < n) : (upto n)[i]? = some (i : Int) := by
  unfold upto
  rw [List.getElem?_map, List.getElem?_range h]
  rfl
theorem cat_any {K : PySem.W.Frag} {H : Hp} {a b : Addr} {xs ys : List V} {Q : VK} (ha : H a = some (.tup xs)) (hb : H b = some (.tup ys)) (hl : xs.length + ys.length ≤ 900) (q : ∀ p H', Same H H' → H' p = some (.tup (xs ++ ys)) → Q (.ref p) H') : rCatA K (.ref a) (.ref b) H Q := by
  refine ⟨a, b, xs, ys, rfl, rfl, SqT.of ha, SqT.of hb, Nat.le_of_lt (small1000 (by omega)), fun e => ?_, fun _ e => ?_, fun _ _ p np => ?_⟩
  · exact q b H (Same.refl H) (by rw [hb, e]; rfl)
  · exact q a H (Same.refl H) (by rw [ha, e, List.append_nil])
  · exact q p _ (same_upd np) upd_same
theorem cat_ints {K : PySem.W.Frag} {H : Hp} {a b : Addr} {xs ys : List Int} {Q : VK} (ha : TupAt H a xs) (hb : TupAt H b ys) (hl : xs.length + ys.length ≤ 900) (q : ∀ p H', Same H H' → TupAt H' p (xs ++ ys) → Q (.ref p) H') : rCatA K (.ref a) (.ref b) H Q := by
  refine cat_any ha hb (by rw [iV_length, iV_length]; exact hl) fun p H' s h => q p H' s ?_
  show H' p = some (.tup ((xs ++ ys).map V.int))
  rw [h, List.map_append]
/-- a turn of a comprehension that keeps some of some ints -/
theorem turn_filter {H5 H6 H7 : Hp} {D : Addr} {l : List Int} {i : Nat} {c : Int} {f : Int → Bool} (nD : H5 D = none) (s : Same H5 H6) (hD : H6 D = some (.lst (iV ((l.take i).filter f)))) (s7 : Same H6 H7) (hc : l[i]? = some c) (hl : l.length ≤ 100) :
    (f c = true → ∃ acc, H7 D = some (.lst acc) ∧ acc.length < sizeLine ∧ Same H5 (upd H7 D (.lst (acc ++ [V.int c]))) ∧ (upd H7 D (.lst (acc ++ [V.int c]))) D = some (.lst (iV ((l.take (i + 1)).filter f)))) ∧
    (¬ f c = true → Same H5 H7 ∧ H7 D = some (.lst (iV ((l.take (i + 1)).filter f)))) := by
  refine ⟨fun h => ⟨_, s7 _ _ hD, ?_, same_grow (s.trans s7) nD, ?_⟩, fun h => ⟨s.trans s7, ?_⟩⟩
  · rw [iV_length]
    exact small_of (filt_len l i f hl) (by decide)
  · rw [upd_same, filt_take f hc, if_pos h, iV_snoc]
  · rw [filt_take f hc, if_neg h, List.append_nil]
    exact s7 _ _ hD
theorem StoreAt.ext {d : Addr} {H H' : Hp} {a : Addr} {T : List (Addr × List (Addr × List Int))} (q : StoreAt H a T) (hd : Dr H d) (x : Ext d H H') : StoreAt H' a T :=
  ⟨x.tup hd q.tup, fun t ht => ⟨x.tup hd (q.tab t ht).tab, fun r hr => x.tup hd ((q.tab t ht).row r hr)⟩⟩
theorem cut_take {α : Type} (T : List (Addr × α)) (t : Nat) (h : t ≤ T.length) : cutV (rV T) none (some (t : Int)) = rV (T.take t) := by
  have len : (rV T).length = T.length := rV_length T
  unfold cutV
  rw [HT.sIx_none, HT.sIx_nat, len, Nat.min_eq_left h, Nat.sub_zero, List.drop_zero]
  show (T.map fun p => V.ref p.1).take t = (T.take t).map fun p => V.ref p.1
  rw [List.map_take]
theorem cut_drop {α : Type} (T : List (Addr × α)) (t : Nat) (h : t ≤ T.length) : cutV (rV T) (some (t : Int)) none = rV (T.drop t) := by
  have len : (rV T).length = T.length := rV_length T
  unfold cutV
  rw [HT.sIx_none, HT.sIx_nat, len, Nat.min_eq_left h]
  have e : ((rV T).drop t).length = T.length - t := by rw [List.length_drop, len]
  rw [← e, List.take_length]
  show (T.map fun p => V.ref p.1).drop t = (T.drop t).map fun p => V.ref p.1
  rw [List.map_drop]
/-- the law's own defs -/
structure LDefs (K : PySem.W.Frag) (mg : Str → Option Value) : Prop where
  draws : ∃ f fd, Fun K "_law_draws" "_law_draws" sDraws f fd ∧ Binds K fd ["_law_script", "_law_many"] [] ∧ mg "_law_draws" = some (.ref f)
  take : ∃ f fd, Fun K "_law_take" "_law_take" sTake f fd ∧ Binds K fd ["_law_draws_here", "_law_many"] [] ∧ mg "_law_take" = some (.ref f)
  cell : ∃ f fd, Fun K "_law_cell" "_law_cell" sCell f fd ∧ Binds K fd ["_law_script", "_law_draws_here"] [] ∧ mg "_law_cell" = some (.ref f)
  cols : ∃ f fd, Fun K "_law_columns" "_law_columns" sColumns f fd ∧ Binds K fd ["_law_draws_here", "_law_width"] [] ∧ mg "_law_columns" = some (.ref f)
  scheme : ∃ f fd, Fun K "_law_scheme" "_law_scheme" sScheme f fd ∧ Binds K fd ["_law_draws_here"] [] ∧ mg "_law_scheme" = some (.ref f)
  wide : ∃ f fd, Fun K "_law_wide" "_law_wide" sWide f fd ∧ Binds K fd ["_law_draws_here", "_law_cell_here"] [] ∧ mg "_law_wide" = some (.ref f)
  rows : ∃ f fd, Fun K "_law_rows" "_law_rows" sRows f fd ∧ Binds K fd ["_law_draws_here", "_law_width", "_law_most", "_law_wide_here"] [] ∧ mg "_law_rows" = some (.ref f)
  store : ∃ f fd, Fun K "_law_store" "_law_store" sStore f fd ∧ Binds K fd ["_law_draws_here", "_law_scheme_here", "_law_most", "_law_wide_here"] [] ∧ mg "_law_store" = some (.ref f)
  agree : ∃ f fd, Fun K "_law_agree" "_law_agree" sLAgree f fd ∧ Binds K fd ["_law_one", "_law_other", "_law_columns_here"] [] ∧ mg "_law_agree" = some (.ref f)
  thin : ∃ f fd, Fun K "_law_thinned" "_law_thinned" sThinned f fd ∧ Binds K fd ["_law_rows_here", "_law_left", "_law_right"] [] ∧ mg "_law_thinned" = some (.ref f)
abbrev tLen (K : PySem.W.Frag) (t : TE) : TE := tCB (fun xs H Q => ∃ p ys, xs = [.ref p] ∧ (SqL K H p ys ∨ SqT K H p ys) ∧ Q (.int ys.length) H) (tCons t tNil)
section
variable {P : Program} {w : World} {K : PySem.W.Frag} {mg : Str → Option Value} {base : Heap}
def spLaw (K : PySem.W.Frag) : Sp := fun vs H Q _ => ∃ (a : Addr) (ns : List Int), vs = [.ref a] ∧ ScrAt K H a (iV ns) ∧ ns.length ≤ 63 ∧ ∀ H', Q (.bl true) H'
theorem ok_law {f : Addr} {fd : FuncData} (F : Fun K "law" "law" sLaw f fd) (T : Defs K mg) (TL : LDefs K mg) : FnOk P w K mg base CX0 6 f fd ["_law_script"] (spLaw K) := by
  obtain ⟨fD, fdD, FD, bD, mD⟩ := TL.draws
  obtain ⟨fT, fdT, FT, bT, mT⟩ := TL.take
  obtain ⟨fC, fdC, FC, bC, mC⟩ := TL.cell
  obtain ⟨fO, fdO, FO, bO, mO⟩ := TL.cols
  obtain ⟨fS, fdS, FS, bS, mS⟩ := TL.scheme
  obtain ⟨fW, fdW, FW, bW, mW⟩ := TL.wide
  obtain ⟨fR, fdR, FR, bR, mR⟩ := TL.rows
  obtain ⟨fZ, fdZ, FZ, bZ, mZ⟩ := TL.store
  obtain ⟨fA, fdA, FA, bA, mA⟩ := TL.agree
  obtain ⟨fN, fdN, FN, bN, mN⟩ := TL.thin
  obtain ⟨fK, fdK, FK, bK, mK⟩ := T.keeps
  obtain ⟨fL, fdL, FL, bL, mL⟩ := T.least
  have GD : FnOk P w K mg base CX0 5 fD fdD ["_law_script", "_law_many"] (spDraws K) := ok_draws (k := 4) FD T.len_ T.int_ T.list_ T.range_
  have GT : FnOk P w K mg base CX0 5 fT fdT ["_law_draws_here", "_law_many"] spTake := ok_take (k := 4) FT T.len_ T.int_
  have GC : FnOk P w K mg base CX0 5 fC fdC ["_law_script", "_law_draws_here"] (spCell K) := ok_cell (k := 3) FC FT bT mT T.len_ T.int_
  have GO : FnOk P w K mg base CX0 5 fO fdO ["_law_draws_here", "_law_width"] spColumns := ok_columns (k := 3) FO FT bT mT T.len_ T.int_ T.tuple_ T.range_
  have GS : FnOk P w K mg base CX0 5 fS fdS ["_law_draws_here"] spScheme := ok_scheme (k := 3) FS FT bT mT T.len_ T.int_ T.tuple_ T.range_
  have GW : FnOk P w K mg base CX0 5 fW fdW ["_law_draws_here", "_law_cell_here"] spWide := ok_wide (k := 3) FW FT bT mT T.len_ T.int_ T.range_
  have GZ : FnOk P w K mg base CX0 5 fZ fdZ ["_law_draws_here", "_law_scheme_here", "_law_most", "_law_wide_here"] spStore := ok_store (k := 2) FZ FT bT mT FR bR mR T.len_ T.int_ T.tuple_ T.range_ T.sorted_ T.set_
  have GN : FnOk P w K mg base CX0 5 fN fdN ["_law_rows_here", "_law_left", "_law_right"] spThinned := ok_thinned (k := 3) FN FA bA mA T.len_ T.tuple_
  have GK : FnOk P w K mg base CX0 5 fK fdK ["scheme", "store", "dependency"] spKeeps := ok_keeps (k := 0) FK T
  have GL : FnOk P w K mg base CX0 5 fL fdL ["scheme", "store", "dependency"] spLeast := ok_least (k := 1) FL T
  refine F.ok scLaw (fun vs H Q E h => ?_) (fun cdv A outer s H vs Q E hr h => ?_)
  · obtain ⟨a, ns, e, _⟩ := h
    rw [e]
    rfl
  · obtain ⟨a, ns, e, ha, hns, q⟩ := h
    subst e
    refine ⟨_, pss_cons (ps_set (i := 1) scLaw.nd rfl (.inl rfl) (pe_call GD hr (by rfl) mD FD.kp bD .nil pass0 (pa_cons (pv 0) (pa_cons pe_int pa_nil))))
      (pss_cons (ps_set (i := 2) scLaw.nd rfl (.inl rfl) (pe_call GC hr (by rfl) mC FC.kp bC .nil pass0 (pa_cons (pv 0) (pa_cons (pv 1) pa_nil))))
      (pss_cons (ps_set (i := 3) scLaw.nd rfl (.inr rfl) (pe_call GS hr (by rfl) mS FS.kp bS .nil pass0 (pa_cons (pv 1) pa_nil)))
      (pss_cons (ps_set (i := 4) scLaw.nd rfl (.inr rfl) (pe_call GZ hr (by rfl) mZ FZ.kp bZ .nil pass0 (pa_cons (pv 1) (pa_cons (pv 3) (pa_cons pe_int (pa_cons (pe_call GW hr (by rfl) mW FW.kp bW .nil pass0 (pa_cons (pv 1) (pa_cons (pv 2) pa_nil))) pa_nil))))))
      (pss_cons (ps_for PassesOwn.never rfl (pi_range1 (by rfl) T.range_ (pa_cons pe_int pa_nil)) (pg_name (i := 5) scLaw.nd rfl (.inl rfl))
        (pss_cons (ps_set (i := 6) scLaw.nd rfl (.inl rfl) (pe_call GT hr (by rfl) mT FT.kp bT .nil pass0 (pa_cons (pv 1) (pa_cons (pe_callB call_len_seq (by rfl) T.len_ (by decide +kernel) (pa_cons (pv 3) pa_nil)) pa_nil))))
        (pss_cons (ps_setLc (i := 7) (own := [("_law_column", 18)]) (g := gName 18) (te := tVar 18) rfl scLaw.nd rfl rfl (sw_true rfl rfl rfl (by decide +kernel)) (pi_range1 (by rfl) T.range_ (pa_cons (pe_ix ix_tup (pv 3) (pv 6) (fun _ _ => rfl)) pa_nil))
            (blkOk_by (N := nLaw) (sc := defScope sLaw) (by decide +kernel)) (fun _ _ _ _ _ => pg_name (i := 18) scLaw.nd rfl (Or.inl rfl)) (fun _ _ _ _ _ => pts_nil) (fun _ _ _ _ _ => pv 18))
        (pss_cons (ps_set (i := 8) scLaw.nd rfl (.inr rfl) (pe_call GO hr (by rfl) mO FO.kp bO .nil pass0 (pa_cons (pv 1) (pa_cons (pe_ix ix_tup (pv 3) (pv 6) (fun _ _ => rfl)) pa_nil))))
        (pss_cons (ps_set (i := 9) scLaw.nd rfl (.inr rfl) (pe_call GO hr (by rfl) mO FO.kp bO .nil pass0 (pa_cons (pv 1) (pa_cons (pe_ix ix_tup (pv 3) (pv 6) (fun _ _ => rfl)) pa_nil))))
        (pss_cons (ps_set (i := 10) scLaw.nd rfl (.inr rfl) (pe_callTy call_tuple_of (by rfl) T.tuple_ (by decide +kernel) (pa_cons
            (pe_lc (own := [("_law_column", 18)]) (g := gName 18) (tt := tTest (tOp (rIn K false) (tVar 18) (tOp (rCatA K) (tVar 8) (tVar 9)))) (te := tVar 18) rfl scLaw.nd (pi_list (pv 7)) (blkOk_by (N := nLaw) (sc := defScope sLaw) (by decide +kernel))
              (fun _ _ _ _ _ => pg_name (i := 18) scLaw.nd rfl (Or.inl rfl)) (fun _ _ _ _ _ => pts_one (pt_cmpR op_in_seq (pv 18) (pe_op op_catA (pv 8) (pv 9)) (by rfl))) (fun _ _ _ _ _ => pv 18)) pa_nil)))
        (pss_cons (ps_set (i := 11) scLaw.nd rfl (.inl rfl) (pe_callTy call_tuple_of (by rfl) T.tuple_ (by decide +kernel) (pa_cons
            (pe_lc (own := [("_law_column", 18)]) (g := gName 18) (tt := tTest (tOp (rIn K true) (tVar 18) (tVar 10))) (te := tVar 18) rfl scLaw.nd (pi_list (pv 7)) (blkOk_by (N := nLaw) (sc := defScope sLaw) (by decide +kernel))
              (fun _ _ _ _ _ => pg_name (i := 18) scLaw.nd rfl (Or.inl rfl)) (fun _ _ _ _ _ => pts_one (pt_cmpR op_notIn_seq (pv 18) (pv 10) (by rfl))) (fun _ _ _ _ _ => pv 18)) pa_nil)))
        (pss_cons (ps_set (i := 12) scLaw.nd rfl (.inl rfl) (pe_callTy call_tuple_of (by rfl) T.tuple_ (by decide +kernel) (pa_cons
            (pe_lc (own := [("_law_column", 18)]) (g := gName 18) (tt := tTest (tOp (rIn K true) (tVar 18) (tVar 8))) (te := tVar 18) rfl scLaw.nd (pi_tup (pv 9)) (blkOk_by (N := nLaw) (sc := defScope sLaw) (by decide +kernel))
              (fun _ _ _ _ _ => pg_name (i := 18) scLaw.nd rfl (Or.inl rfl)) (fun _ _ _ _ _ => pts_one (pt_cmpR op_notIn_seq (pv 18) (pv 8) (by rfl))) (fun _ _ _ _ _ => pv 18)) pa_nil)))
        (pss_cons (ps_set (i := 13) scLaw.nd rfl (.inl rfl) (pe_callTy call_tuple_of (by rfl) T.tuple_ (by decide +kernel) (pa_cons
            (pe_lc (own := [("_law_column", 18)]) (g := gName 18) (tt := tOr (tTest (tOp (rIn K true) (tVar 18) (tVar 9))) (tTest (tOp (rIn K false) (tVar 18) (tVar 8)))) (te := tVar 18) rfl scLaw.nd (pi_list (pv 7)) (blkOk_by (N := nLaw) (sc := defScope sLaw) (by decide +kernel))
              (fun _ _ _ _ _ => pg_name (i := 18) scLaw.nd rfl (Or.inl rfl)) (fun _ _ _ _ _ => pts_one (PW.pt (pw_or (pt_cmpR op_notIn_seq (pv 18) (pv 9) (by rfl)) (pw_or1 (pt_cmpR op_in_seq (pv 18) (pv 8) (by rfl)))))) (fun _ _ _ _ _ => pv 18)) pa_nil)))
        (pss_cons (ps_set (i := 14) scLaw.nd rfl (.inl rfl) (pe_lst (pa_cons (pe_tup (pa_cons pe_str (pa_cons (pv 6) (pa_cons (pv 8) (pa_cons (pv 9) pa_nil))))) (pa_cons (pe_tup (pa_cons pe_str (pa_cons (pv 6) (pa_cons (pv 8) (pa_cons (pv 10) pa_nil))))) (pa_cons (pe_tup (pa_cons pe_str (pa_cons (pv 6) (pa_cons (pv 8) (pa_cons (pv 12) pa_nil))))) pa_nil)))))
        (pss_cons (ps_set (i := 14) scLaw.nd rfl (.inl rfl) (pe_op op_cat (pv 14) (pe_lst (pa_cons (pe_tup (pa_cons pe_str (pa_cons (pv 6) (pa_cons (pv 8) (pa_cons (pv 11) pa_nil))))) (pa_cons (pe_tup (pa_cons pe_str (pa_cons (pv 6) (pa_cons (pv 8) (pa_cons (pv 13) pa_nil))))) pa_nil)))))
        (pss_cons (ps_set (i := 15) scLaw.nd rfl (.inl rfl) (pe_callTy call_tuple_of (by rfl) T.tuple_ (by decide +kernel) (pa_cons
            (pe_lc (own := [("_law_part", 19)]) (g := gName 19) (tt := tTest (tOp (rI0 fun i j => .bl (decide (j < i))) (tLen K (tVar 19)) (tC (.int 0)))) (te := tVar 19) rfl scLaw.nd
              (pi_list (pe_lst (pa_cons (pv 10) (pa_cons (pe_callTy call_tuple_of (by rfl) T.tuple_ (by decide +kernel) (pa_cons (pe_callB (cr_sortedSet rfl) (by rfl) T.sorted_ (by decide +kernel) (pa_cons (pe_callTy (cr_setI rfl) (by rfl) T.set_ (by decide +kernel) (pa_cons (pe_op op_catA (pv 8) (pv 11)) pa_nil)) pa_nil)) pa_nil)) pa_nil))))
              (blkOk_by (N := nLaw) (sc := defScope sLaw) (by decide +kernel)) (fun _ _ _ _ _ => pg_name (i := 19) scLaw.nd rfl (Or.inl rfl)) (fun _ _ _ _ _ => pts_one (pt_cmpR op_gt (pe_callB call_len_seq (by rfl) T.len_ (by decide +kernel) (pa_cons (pv 19) pa_nil)) pe_int (nomark _))) (fun _ _ _ _ _ => pv 19)) pa_nil)))
        (pss_cons (ps_expr (pe_bm PySem.F.plainAttrs_list PySem.F.slot_list_append PySem.F.type_list_append mt_append (pv 14) (pa_cons (pe_tup (pa_cons pe_str (pa_cons (pv 6) (pa_cons (pv 15) pa_nil)))) pa_nil)))
        (pss_cons (ps_setLc (i := 16) (own := [("_law_dependency_here", 20)]) (g := gName 20) (te := tCall spKeeps [] E0 (tCons (tVar 3) (tCons (tVar 4) (tCons (tVar 20) tNil)))) rfl scLaw.nd rfl rfl (sw_true rfl rfl rfl (by decide +kernel)) (pi_list (pv 14))
            (blkOk_by (N := nLaw) (sc := defScope sLaw) (by decide +kernel)) (fun _ _ _ _ _ => pg_name (i := 20) scLaw.nd rfl (Or.inl rfl)) (fun _ _ _ _ _ => pts_nil) (fun _ _ _ _ _ => pe_call GK hr (by rfl) mK FK.kp bK .nil pass0 (pa_cons (pv 3) (pa_cons (pv 4) (pa_cons (pv 20) pa_nil)))))
        (pss_cons (ps_if (PW.pt (pw_or (pt_cmpR (op_neD hr.units) (pv 16) (pe_op op_rep (pe_lst (pa_cons (pe_ix ix_list (pv 16) pe_int (fun _ _ => rfl)) pa_nil)) pe_int) (nomark _)) (pw_or1 (pt_cmpR (op_neD hr.units)
              (pe_lc (own := [("_law_dependency_here", 20)]) (g := gName 20) (te := tOp (fun x y H Q => y = .non ∧ Q (.bl (decide (x = .non))) H) (tCall spLeast [] E0 (tCons (tVar 3) (tCons (tVar 4) (tCons (tVar 20) tNil)))) (tC .non)) rfl scLaw.nd (pi_list (pv 14)) (blkOk_by (N := nLaw) (sc := defScope sLaw) (by decide +kernel))
                (fun _ _ _ _ _ => pg_name (i := 20) scLaw.nd rfl (Or.inl rfl)) (fun _ _ _ _ _ => pts_nil) (fun _ _ _ _ _ => pe_cmpR op_isN (pe_call GL hr (by rfl) mL FL.kp bL .nil pass0 (pa_cons (pv 3) (pa_cons (pv 4) (pa_cons (pv 20) pa_nil)))) pe_non (nomark _)))
              (pv 16) (nomark _))))) (pss_one (ps_ret pe_bl)) pss_nil)
        (pss_cons (ps_set (i := 17) scLaw.nd rfl (.inl rfl) (pe_op op_catA (pe_op op_catA (pe_slice sl_tupA (pv 4) po_none (po_some (pv 6))) (pe_tup (pa_cons (pe_call GN hr (by rfl) mN FN.kp bN .nil pass0 (pa_cons (pe_ix ix_tup (pv 4) (pv 6) (fun _ _ => rfl)) (pa_cons (pv 8) (pa_cons (pv 9) pa_nil)))) pa_nil)))
            (pe_slice sl_tupA (pv 4) (po_some (pe_op op_add (pv 6) pe_int)) po_none)))
        (pss_one (ps_if (PW.pt (pw_or (pt_not (pt_val (pe_call GK hr (by rfl) mK FK.kp bK .nil pass0 (pa_cons (pv 3) (pa_cons (pv 17) (pa_cons (pe_tup (pa_cons pe_str (pa_cons (pv 6) (pa_cons (pv 8) (pa_cons (pv 9) pa_nil))))) pa_nil))))))
            (pw_or1 (pt_not (pt_val (pe_call GK hr (by rfl) mK FK.kp bK .nil pass0 (pa_cons (pv 3) (pa_cons (pv 17) (pa_cons (pe_ix ix_list (pv 14) pe_int (fun _ _ => rfl)) pa_nil))))))))) (pss_one (ps_ret pe_bl)) pss_nil))))))))))))))))))
      (pss_one (ps_ret pe_bl)))))), ?_⟩
    -- the draws, a cell, the scheme, the store
    refine ⟨_, rfl, a, 420, ns, rfl, ha, hns, by decide, fun H1 d ds1 s1 nd hd1 => ?_⟩
    refine ⟨_, rfl, _, rfl, a, d, ns, ds1, rfl, ha.same s1, hd1, fun c H2 x2 => ?_⟩
    refine ⟨_, rfl, d, rfl, x2.draw, fun H3 sc xs x3 nsc hsc xs1 xs6 hxs => ?_⟩
    refine ⟨_, rfl, _, rfl, _, rfl, _, rfl, d, c, rfl, x3.draw, fun H4 wl ws x4 nwl hwl ws1 => ?_⟩
    have wd : wl ≠ d := fun z => by
      obtain ⟨ds, e⟩ := x3.draw
      rw [z, e] at nwl
      cases nwl
    refine ⟨d, sc, wl, 6, xs, ws, rfl, x4.tup x3.draw hsc, xs6, hxs, by decide, x4.draw, wd, hwl, ws1, fun H5 st T x5 nst hst f6 => ?_⟩
    have hsc5 : TupAt H5 sc xs := x5.tup x4.draw (x4.tup x3.draw hsc)
    refine ⟨3, rfl, by decide, by decide, for_range (lo := 0) (n := 3) (fun i σ H' => ∃ y5 y6 y7 y8 y9 y10 y11 y12 y13 y14 y15 y16 y17 : Option V, σ = [some (.ref a), some (.ref d), some (.int c), some (.ref sc), some (.ref st), y5, y6, y7, y8, y9, y10, y11, y12, y13, y14, y15, y16, y17, none, none, none] ∧ Ext d H5 H')
      ⟨none, none, none, none, none, none, none, none, none, none, none, none, none, rfl, ⟨fun b o _ e => e, x5.draw⟩⟩ ?_ ?_⟩
    · rintro i σ H6 hi ⟨y5, y6, y7, y8, y9, y10, y11, y12, y13, y14, y15, y16, y17, rfl, x6⟩
      have hsc6 : TupAt H6 sc xs := x6.tup x5.draw hsc5
      have hst6 : StoreAt H6 st T := hst.ext x5.draw x6
      obtain ⟨ds6, hd6⟩ := x6.draw
      -- a table
      refine ⟨_, rfl, _, rfl, sc, _, rfl, .inr (SqT.of hsc6), d, ((iV xs).length : Int), ds6, rfl, by rw [iV_length]; omega, hd6, fun x H7 x7 h0 hx => ?_⟩
      rw [iV_length] at hx
      obtain ⟨t, rfl⟩ : ∃ t : Nat, x = (t : Int) := ⟨x.toNat, by omega⟩
      have ht : t < xs.length := by omega
      obtain ⟨n, hn, n1, n7⟩ : ∃ n : Nat, xs[t]? = some (n : Int) ∧ 1 ≤ n ∧ n ≤ 7 := by
        have z := hxs xs[t] (List.getElem_mem ht)
        exact ⟨xs[t].toNat, by rw [List.getElem?_eq_getElem ht, Int.toNat_of_nonneg (by omega)], by omega, by omega⟩
      have htT : t < T.length := by rw [f6.len]; exact ht
      obtain ⟨⟨tb, L⟩, hT⟩ : ∃ z, T[t]? = some z := ⟨_, List.getElem?_eq_getElem htT⟩
      have mT : (tb, L) ∈ T := List.mem_of_getElem? hT
      have six : L.length ≤ 6 := f6.six _ mT
      have wid : ∀ r ∈ L, r.2.length = n := fun r hr => by
        have z := f6.wid t (tb, L) (n : Int) hT hn r hr
        omega
      have at_t : atI (iV xs) (t : Int) = some (.int (n : Int)) := atI_nat (j := t) (by
        show (xs.map V.int)[t]? = _
        rw [List.getElem?_map, hn]
        rfl)
      have hsc7 : TupAt H7 sc xs := x7.tup ⟨ds6, hd6⟩ hsc6
      have hst7 : StoreAt H7 st T := hst6.ext ⟨ds6, hd6⟩ x7
      -- every
      refine ⟨_, rfl, _, rfl, sc, _, (t : Int), _, rfl, rfl, SqT.of hsc7, at_t, (n : Int), rfl, by omega, by omega, fun E nE => lc_range (lo := 0) (n := _) (fun i H' => Same H7 H' ∧ H' E = some (.lst (iV ((upto n).take i)))) ⟨same_upd nE, upd_same⟩ (fun i H8 hi p => ?_) fun H8 p => ?_⟩
      · rw [Int.toNat_natCast] at hi
        have e0 : (0 : Int) + (i : Int) = (i : Int) := Int.zero_add _
        refine ⟨rfl, yes_turn ⟨_, rfl, _, p.2, ?_, same_grow p.1 nE, ?_⟩⟩
        · rw [iV_length, List.length_take, upto_length]
          exact small_of (Nat.le_trans (Nat.min_le_right _ _) n7) (by decide)
        · rw [upd_same, e0, iV_grow (upto_get hi)]
      obtain ⟨s8, hE8⟩ := p
      have eU : (upto n).take (n : Int).toNat = upto n := by
        rw [Int.toNat_natCast]
        exact List.take_of_length_le (Nat.le_of_eq (upto_length n))
      rw [eU] at hE8
      have x78 := x7.then s8
      have Ed : E ≠ d := fun z => by
        obtain ⟨ds, e⟩ := x7.draw
        rw [z, e] at nE
        cases nE
      dsimp only [List.set_cons_succ, List.set_cons_zero]
      -- left
      refine ⟨_, rfl, _, rfl, _, rfl, sc, _, (t : Int), _, rfl, rfl, SqT.of (s8 _ _ hsc7), at_t, d, n, rfl, by omega, x78.draw, fun H9 l ls x9 nl hl9 inL ndL lenL => ?_⟩
      have hsc9 : TupAt H9 sc xs := x9.tup x78.draw (s8 _ _ hsc7)
      -- right
      refine ⟨_, rfl, _, rfl, _, rfl, sc, _, (t : Int), _, rfl, rfl, SqT.of hsc9, at_t, d, n, rfl, by omega, x9.draw, fun H10 r rs x10 nr hr inR ndR lenR => ?_⟩
      have hl : TupAt H10 l ls := x10.tup x9.draw hl9
      have hsc10 : TupAt H10 sc xs := x10.tup x9.draw hsc9
      have hst10 : StoreAt H10 st T := ((hst7.same s8).ext x78.draw x9).ext x9.draw x10
      have hE : H10 E = some (.lst (iV (upto n))) := x10.keep E _ Ed (x9.keep E _ Ed hE8)
      have X10 : Ext d H5 H10 := ((x6.trans x78).trans x9).trans x10
      have u100 : (upto n).length ≤ 100 := by rw [upto_length]; omega
      dsimp only [List.set_cons_succ, List.set_cons_zero]
      -- both
      obtain ⟨fb, hfb⟩ : ∃ fb : Int → Bool, fb = fun c => decide (c ∈ ls ++ rs) := ⟨_, rfl⟩
      refine ⟨_, rfl, E, rfl, ⟨_, SqL.of hE⟩, fun D1 nD1 => lc_list (xs := iV (upto n)) (fun i H' => Same H10 H' ∧ H' D1 = some (.lst (iV (((upto n).take i).filter fb)))) ⟨same_upd nD1, upd_same⟩ (fun i H' _ p => SqL.of (p.1 _ _ hE)) (fun i x H11 hx p => ?_) fun H11 p => ?_⟩
      · obtain ⟨c', hc', rfl⟩ := iV_get hx
        refine ⟨rfl, ⟨_, rfl, _, rfl, _, rfl, cat_ints (p.1 _ _ hl) (p.1 _ _ hr) (by omega) fun z H12 s12 hz => rIn_tup hz ⟨_, rfl, ?_⟩⟩⟩
        have tf := turn_filter (f := fb) nD1 p.1 p.2 s12 hc' u100
        have ef : decide (c' ∈ ls ++ rs) = fb c' := by rw [hfb]
        rw [ef]
        exact ite2 (fun h => ⟨_, rfl, tf.1 h⟩) tf.2
      obtain ⟨s11, hD1⟩ := p
      rw [iV_length, List.take_length] at hD1
      obtain ⟨bs, ebs⟩ : ∃ bs, bs = (upto n).filter fb := ⟨_, rfl⟩
      rw [← ebs] at hD1
      refine ⟨D1, _, rfl, .inl ⟨SqL.of hD1, fun b nb => ?_⟩⟩
      have sb := s11.trans (same_upd (o := .tup (iV bs)) nb)
      have hb : TupAt (upd H11 b (.tup (iV bs))) b bs := upd_same
      have bmem : ∀ k : Int, k ∈ bs ↔ (0 ≤ k ∧ k < (n : Int)) ∧ (k ∈ ls ∨ k ∈ rs) := fun k => by
        rw [ebs, List.mem_filter, upto_mem, hfb]
        show _ ∧ decide (k ∈ ls ++ rs) = true ↔ _
        rw [decide_eq_true_eq, List.mem_append]
      have blen : bs.length ≤ 7 := by
        rw [ebs]
        refine Nat.le_trans (List.length_filter_le _ _) ?_
        rw [upto_length]
        exact n7
      have bnd : bs.Nodup := by
        rw [ebs]
        exact (upto_nodup n).filter _
      generalize (upd H11 b (.tup (iV bs)) : Hp) = H12 at sb hb ⊢
      have hE12 := sb _ _ hE
      dsimp only [List.set_cons_succ, List.set_cons_zero]
      -- rest
      obtain ⟨fe, hfe⟩ : ∃ fe : Int → Bool, fe = fun c => !decide (c ∈ bs) := ⟨_, rfl⟩
      refine ⟨_, rfl, E, rfl, ⟨_, SqL.of hE12⟩, fun D2 nD2 => lc_list (xs := iV (upto n)) (fun i H' => Same H12 H' ∧ H' D2 = some (.lst (iV (((upto n).take i).filter fe)))) ⟨same_upd nD2, upd_same⟩ (fun i H' _ p => SqL.of (p.1 _ _ hE12)) (fun i x H13 hx p => ?_) fun H13 p => ?_⟩
      · obtain ⟨c', hc', rfl⟩ := iV_get hx
        refine ⟨rfl, ⟨_, rfl, _, rfl, rNotIn_tup (p.1 _ _ hb) ⟨_, rfl, ?_⟩⟩⟩
        have tf := turn_filter (f := fe) nD2 p.1 p.2 (Same.refl H13) hc' u100
        have ef : (!decide (c' ∈ bs)) = fe c' := by rw [hfe]
        rw [ef]
        exact ite2 (fun h => ⟨_, rfl, tf.1 h⟩) tf.2
      obtain ⟨s13, hD2⟩ := p
      rw [iV_length, List.take_length] at hD2
      obtain ⟨es, ees⟩ : ∃ es, es = (upto n).filter fe := ⟨_, rfl⟩
      rw [← ees] at hD2
      refine ⟨D2, _, rfl, .inl ⟨SqL.of hD2, fun e ne => ?_⟩⟩
      have se := s13.trans (same_upd (o := .tup (iV es)) ne)
      have he : TupAt (upd H13 e (.tup (iV es))) e es := upd_same
      have emem : ∀ k : Int, k ∈ es ↔ (0 ≤ k ∧ k < (n : Int)) ∧ ¬ k ∈ bs := fun k => by
        rw [ees, List.mem_filter, upto_mem, hfe]
        show _ ∧ (!decide (k ∈ bs)) = true ↔ _
        rw [Bool.not_eq_true', decide_eq_false_iff_not]
      have elen : es.length ≤ 7 := by
        rw [ees]
        refine Nat.le_trans (List.length_filter_le _ _) ?_
        rw [upto_length]
        exact n7
      generalize (upd H13 e (.tup (iV es)) : Hp) = H14 at se he ⊢
      have s14 := sb.trans se
      have hl14 : TupAt H14 l ls := s14 _ _ hl
      have hr14 : TupAt H14 r rs := s14 _ _ hr
      have hE14 := s14 _ _ hE
      dsimp only [List.set_cons_succ, List.set_cons_zero]
      -- less
      obtain ⟨fs, hfs⟩ : ∃ fs : Int → Bool, fs = fun c => !decide (c ∈ ls) := ⟨_, rfl⟩
      refine ⟨_, rfl, r, rfl, ⟨_, SqT.of hr14⟩, fun D3 nD3 => lc_tup (xs := iV rs) (fun i H' => Same H14 H' ∧ H' D3 = some (.lst (iV ((rs.take i).filter fs)))) ⟨same_upd nD3, upd_same⟩ (fun i H' _ p => SqT.of (p.1 _ _ hr14)) (fun i x H15 hx p => ?_) fun H15 p => ?_⟩
      · obtain ⟨c', hc', rfl⟩ := iV_get hx
        refine ⟨rfl, ⟨_, rfl, _, rfl, rNotIn_tup (p.1 _ _ hl14) ⟨_, rfl, ?_⟩⟩⟩
        have tf := turn_filter (f := fs) nD3 p.1 p.2 (Same.refl H15) hc' (by omega)
        have ef : (!decide (c' ∈ ls)) = fs c' := by rw [hfs]
        rw [ef]
        exact ite2 (fun h => ⟨_, rfl, tf.1 h⟩) tf.2
      obtain ⟨s15, hD3⟩ := p
      rw [iV_length, List.take_length] at hD3
      obtain ⟨us, eus⟩ : ∃ us, us = rs.filter fs := ⟨_, rfl⟩
      rw [← eus] at hD3
      refine ⟨D3, _, rfl, .inl ⟨SqL.of hD3, fun u nu => ?_⟩⟩
      have su := s15.trans (same_upd (o := .tup (iV us)) nu)
      have hu : TupAt (upd H15 u (.tup (iV us))) u us := upd_same
      have umem : ∀ k : Int, k ∈ us ↔ k ∈ rs ∧ ¬ k ∈ ls := fun k => by
        rw [eus, List.mem_filter, hfs]
        show _ ∧ (!decide (k ∈ ls)) = true ↔ _
        rw [Bool.not_eq_true', decide_eq_false_iff_not]
      have ulen : us.length ≤ 7 := by
        rw [eus]
        refine Nat.le_trans (List.length_filter_le _ _) ?_
        omega
      generalize (upd H15 u (.tup (iV us)) : Hp) = H16 at su hu ⊢
      have s16 := s14.trans su
      have hl16 : TupAt H16 l ls := s16 _ _ hl
      have hr16 : TupAt H16 r rs := s16 _ _ hr
      have hE16 := s16 _ _ hE
      dsimp only [List.set_cons_succ, List.set_cons_zero]
      -- far
      obtain ⟨fg, hfg⟩ : ∃ fg : Int → Bool, fg = fun c => (!decide (c ∈ rs)) || decide (c ∈ ls) := ⟨_, rfl⟩
      refine ⟨_, rfl, E, rfl, ⟨_, SqL.of hE16⟩, fun D4 nD4 => lc_list (xs := iV (upto n)) (fun i H' => Same H16 H' ∧ H' D4 = some (.lst (iV (((upto n).take i).filter fg)))) ⟨same_upd nD4, upd_same⟩ (fun i H' _ p => SqL.of (p.1 _ _ hE16)) (fun i x H17 hx p => ?_) fun H17 p => ?_⟩
      · obtain ⟨c', hc', rfl⟩ := iV_get hx
        have tf := turn_filter (f := fg) nD4 p.1 p.2 (Same.refl H17) hc' u100
        refine ⟨rfl, ⟨_, rfl, _, rfl, rNotIn_tup (p.1 _ _ hr16) ⟨_, rfl, ?_⟩⟩⟩
        refine ite2 (fun h => ?_) (fun h => ?_)
        · refine iteT ⟨_, rfl, tf.1 ?_⟩
          rw [hfg]
          show ((!decide (c' ∈ rs)) || decide (c' ∈ ls)) = true
          rw [h, Bool.true_or]
        · refine ⟨_, rfl, _, rfl, rIn_tup (p.1 _ _ hl16) ⟨_, rfl, ?_⟩⟩
          have ef : decide (c' ∈ ls) = fg c' := by
            rw [hfg]
            show decide (c' ∈ ls) = ((!decide (c' ∈ rs)) || decide (c' ∈ ls))
            rw [Bool.eq_false_iff.mpr h, Bool.false_or]
          rw [ef]
          exact ite2 (fun h => ⟨_, rfl, tf.1 h⟩) tf.2
      obtain ⟨s17, hD4⟩ := p
      rw [iV_length, List.take_length] at hD4
      obtain ⟨gs, egs⟩ : ∃ gs, gs = (upto n).filter fg := ⟨_, rfl⟩
      rw [← egs] at hD4
      refine ⟨D4, _, rfl, .inl ⟨SqL.of hD4, fun g ng => ?_⟩⟩
      have sg := s17.trans (same_upd (o := .tup (iV gs)) ng)
      have hg : TupAt (upd H17 g (.tup (iV gs))) g gs := upd_same
      have gmem : ∀ k : Int, k ∈ gs ↔ (0 ≤ k ∧ k < (n : Int)) ∧ (¬ k ∈ rs ∨ k ∈ ls) := fun k => by
        rw [egs, List.mem_filter, upto_mem, hfg]
        show _ ∧ ((!decide (k ∈ rs)) || decide (k ∈ ls)) = true ↔ _
        rw [Bool.or_eq_true, Bool.not_eq_true', decide_eq_false_iff_not, decide_eq_true_eq]
      have glen : gs.length ≤ 7 := by
        rw [egs]
        refine Nat.le_trans (List.length_filter_le _ _) ?_
        rw [upto_length]
        exact n7
      generalize (upd H17 g (.tup (iV gs)) : Hp) = H18 at sg hg ⊢
      have s18 := s16.trans sg
      have hb18 : TupAt H18 b bs := (se.trans (su.trans sg)) _ _ hb
      have he18 : TupAt H18 e es := (su.trans sg) _ _ he
      have hu18 : TupAt H18 u us := sg _ _ hu
      dsimp only [List.set_cons_succ, List.set_cons_zero]
      -- alike: three of them
      refine ⟨_, rfl, _, rfl, _, rfl, by show 4 ≤ sizeLine; decide, fun e0 m0 => ?_⟩
      have t0 := same_upd (o := .tup [.str "deals", .int (t : Int), .ref l, .ref r]) m0
      have d0 : upd H18 e0 (.tup [.str "deals", .int (t : Int), .ref l, .ref r]) e0 = some (.tup [.str "deals", .int (t : Int), .ref l, .ref r]) := upd_same
      generalize (upd H18 e0 (.tup [.str "deals", .int (t : Int), .ref l, .ref r]) : Hp) = I0 at t0 d0 ⊢
      refine ⟨_, rfl, _, rfl, _, rfl, by show 4 ≤ sizeLine; decide, fun e1 m1 => ?_⟩
      have t1 := same_upd (o := .tup [.str "deals", .int (t : Int), .ref l, .ref b]) m1
      have d1 : upd I0 e1 (.tup [.str "deals", .int (t : Int), .ref l, .ref b]) e1 = some (.tup [.str "deals", .int (t : Int), .ref l, .ref b]) := upd_same
      generalize (upd I0 e1 (.tup [.str "deals", .int (t : Int), .ref l, .ref b]) : Hp) = I1 at t1 d1 ⊢
      refine ⟨_, rfl, _, rfl, _, rfl, by show 4 ≤ sizeLine; decide, fun e2 m2 => ?_⟩
      have t2 := same_upd (o := .tup [.str "deals", .int (t : Int), .ref l, .ref u]) m2
      have d2 : upd I1 e2 (.tup [.str "deals", .int (t : Int), .ref l, .ref u]) e2 = some (.tup [.str "deals", .int (t : Int), .ref l, .ref u]) := upd_same
      generalize (upd I1 e2 (.tup [.str "deals", .int (t : Int), .ref l, .ref u]) : Hp) = I2 at t2 d2 ⊢
      refine ⟨by show 3 ≤ sizeLine; decide, fun A1 nA1 => ?_⟩
      have t3 := same_upd (o := .lst [.ref e0, .ref e1, .ref e2]) nA1
      have hA1 : upd I2 A1 (.lst [.ref e0, .ref e1, .ref e2]) A1 = some (.lst [.ref e0, .ref e1, .ref e2]) := upd_same
      generalize (upd I2 A1 (.lst [.ref e0, .ref e1, .ref e2]) : Hp) = I3 at t3 hA1 ⊢
      dsimp only [List.set_cons_succ, List.set_cons_zero]
      -- two more
      refine ⟨_, rfl, _, rfl, _, rfl, _, rfl, by show 4 ≤ sizeLine; decide, fun e3 m3 => ?_⟩
      have t4 := same_upd (o := .tup [.str "deals", .int (t : Int), .ref l, .ref e]) m3
      have d3 : upd I3 e3 (.tup [.str "deals", .int (t : Int), .ref l, .ref e]) e3 = some (.tup [.str "deals", .int (t : Int), .ref l, .ref e]) := upd_same
      generalize (upd I3 e3 (.tup [.str "deals", .int (t : Int), .ref l, .ref e]) : Hp) = I4 at t4 d3 ⊢
      refine ⟨_, rfl, _, rfl, _, rfl, by show 4 ≤ sizeLine; decide, fun e4 m4 => ?_⟩
      have t5 := same_upd (o := .tup [.str "deals", .int (t : Int), .ref l, .ref g]) m4
      have d4 : upd I4 e4 (.tup [.str "deals", .int (t : Int), .ref l, .ref g]) e4 = some (.tup [.str "deals", .int (t : Int), .ref l, .ref g]) := upd_same
      generalize (upd I4 e4 (.tup [.str "deals", .int (t : Int), .ref l, .ref g]) : Hp) = I5 at t5 d4 ⊢
      refine ⟨by show 2 ≤ sizeLine; decide, fun A2 nA2 => ?_⟩
      have t6 := same_upd (o := .lst [.ref e3, .ref e4]) nA2
      have hA2 : upd I5 A2 (.lst [.ref e3, .ref e4]) A2 = some (.lst [.ref e3, .ref e4]) := upd_same
      generalize (upd I5 A2 (.lst [.ref e3, .ref e4]) : Hp) = I6 at t6 hA2 ⊢
      refine ⟨A1, A2, _, _, rfl, rfl, ((t4.trans t5).trans t6) _ _ hA1, hA2, by show 5 ≤ sizeLine; decide, fun A3 nA3 => ?_⟩
      have t7 := same_upd (o := .lst [.ref e0, .ref e1, .ref e2, .ref e3, .ref e4]) nA3
      have hA3 : upd I6 A3 (.lst [.ref e0, .ref e1, .ref e2, .ref e3, .ref e4]) A3 = some (.lst [.ref e0, .ref e1, .ref e2, .ref e3, .ref e4]) := upd_same
      have eA3 : ([.ref e0, .ref e1, .ref e2] ++ [.ref e3, .ref e4] : List V) = [.ref e0, .ref e1, .ref e2, .ref e3, .ref e4] := rfl
      rw [eA3]
      generalize (upd I6 A3 (.lst [.ref e0, .ref e1, .ref e2, .ref e3, .ref e4]) : Hp) = I7 at t7 hA3 ⊢
      have s07 := ((((((t0.trans t1).trans t2).trans t3).trans t4).trans t5).trans t6).trans t7
      have f0 := ((((((t1.trans t2).trans t3).trans t4).trans t5).trans t6).trans t7) _ _ d0
      have f1 := (((((t2.trans t3).trans t4).trans t5).trans t6).trans t7) _ _ d1
      have f2 := ((((t3.trans t4).trans t5).trans t6).trans t7) _ _ d2
      have f3 := ((t5.trans t6).trans t7) _ _ d3
      have f4 := (t6.trans t7) _ _ d4
      dsimp only [List.set_cons_succ, List.set_cons_zero]
      -- parts
      have hb7 : TupAt I7 b bs := s07 _ _ hb18
      have he7 : TupAt I7 e es := s07 _ _ he18
      have hl7 : TupAt I7 l ls := (s18.trans s07) _ _ hl
      refine ⟨_, rfl, _, rfl, _, rfl, cat_ints hl7 he7 (by omega) fun z Hz sz hz => ?_⟩
      refine ⟨z, ls ++ es, rfl, SqT.of hz, by rw [List.length_append]; omega, fun S n' nS hn' => ?_⟩
      refine ⟨S, _, n', rfl, upd_same, by rw [List.length_append] at hn'; omega, fun ps lp sorted mem len' nlp => ?_⟩
      refine ⟨lp, _, rfl, .inl ⟨SqL.of upd_same, fun pt npt => ?_⟩⟩
      refine ⟨by show 2 ≤ sizeLine; decide, fun X nX => ?_⟩
      obtain ⟨I8, eI8⟩ : ∃ I, I = upd (upd (upd Hz S (SetO w S (fun j => decide (j ∈ ls ++ es)) n')) lp (.lst (iV ps))) pt (.tup (iV ps)) := ⟨_, rfl⟩
      obtain ⟨I9, eI9⟩ : ∃ I, I = upd I8 X (.lst [.ref b, .ref pt]) := ⟨_, rfl⟩
      have szp : Same I7 I8 := by
        rw [eI8]
        exact ((sz.trans (same_upd nS)).trans (same_upd nlp)).trans (same_upd npt)
      have hpt : TupAt I8 pt ps := by
        rw [eI8]
        exact upd_same
      have nX8 : I8 X = none := by
        rw [eI8]
        exact nX
      have t9 : Same I8 I9 := by
        rw [eI9]
        exact same_upd nX8
      have hX : I9 X = some (.lst (rV [(b, bs), (pt, ps)])) := by
        rw [eI9]
        exact upd_same
      have pmem : ∀ k : Int, k ∈ ps ↔ k ∈ ls ∨ k ∈ es := fun k => by
        rw [mem k]
        show decide (k ∈ ls ++ es) = true ↔ _
        rw [decide_eq_true_eq, List.mem_append]
      have plen : ps.length ≤ 14 := by
        rw [List.length_append] at hn'
        omega
      have C : Cols n ls rs bs es us gs ps := ⟨n1, n7, inL, inR, lenL, lenR, bmem, blen, bnd, emem, elen, umem, ulen, gmem, glen, pmem, plen, sorted.imp fun h => Int.ne_of_lt h⟩
      have s79 := szp.trans t9
      have hb9 : TupAt I9 b bs := s79 _ _ hb7
      have hp9 : TupAt I9 pt ps := t9 _ _ hpt
      refine ⟨X, rfl, ⟨_, SqL.of upd_same⟩, fun D5 nD5g => ?_⟩
      have nD5 : I9 D5 = none := by
        rw [eI9, eI8]
        exact nD5g
      refine lc_list (xs := rV [(b, bs), (pt, ps)]) (fun i H' => Same I9 H' ∧ H' D5 = some (.lst (rV (([(b, bs), (pt, ps)].take i).filter fz)))) ⟨?_, upd_same⟩ (fun i H' _ p => SqL.of (p.1 _ _ hX)) (fun i x I10 hx p => ?_) fun I10 p => ?_
      · rw [eI9, eI8]
        exact same_upd nD5g
      · obtain ⟨sD, hD5⟩ := p
        obtain ⟨y, hy, rfl⟩ := rV_get hx
        have my : y ∈ [(b, bs), (pt, ps)] := List.mem_of_getElem? hy
        have ty : TupAt I10 y.1 y.2 := by
          rcases List.mem_cons.mp my with rfl | my
          · exact sD _ _ hb9
          · rw [List.mem_singleton.mp my]
            exact sD _ _ hp9
        refine ⟨rfl, ⟨_, rfl, y.1, _, rfl, .inr (SqT.of ty), _, _, rfl, rfl, _, rfl, ?_⟩⟩
        have ef : decide ((0 : Int) < ((iV y.2).length : Int)) = fz y := by
          rw [iV_length]
          exact decide_eq_decide.mpr (by omega)
        rw [ef]
        refine ite2 (fun h => ⟨_, rfl, _, hD5, ?_, same_grow sD nD5, ?_⟩) fun h => ⟨sD, ?_⟩
        · rw [rV_length]
          exact small_of (filt_len _ i fz (Nat.le_refl _)) (by show 2 ≤ 1000; decide)
        · rw [upd_same, filt_take fz hy, if_pos h, rV_snoc]
        · rw [filt_take fz hy, if_neg h, List.append_nil]
          exact hD5
      obtain ⟨sD, hD5⟩ := p
      rw [rV_length, List.take_length] at hD5
      refine ⟨D5, _, rfl, .inl ⟨SqL.of hD5, fun pp npp => ?_⟩⟩
      have t10 := sD.trans (same_upd (o := .tup (rV ([(b, bs), (pt, ps)].filter fz))) npp)
      have hpp : upd I10 pp (.tup (rV ([(b, bs), (pt, ps)].filter fz))) pp = some (.tup (rV ([(b, bs), (pt, ps)].filter fz))) := upd_same
      generalize (upd I10 pp (.tup (rV ([(b, bs), (pt, ps)].filter fz))) : Hp) = J0 at t10 hpp ⊢
      have s70 := s79.trans t10
      dsimp only [List.set_cons_succ, List.set_cons_zero]
      -- the join is appended
      refine ⟨_, rfl, .inl ⟨rfl, _, SqL.of (s70 _ _ hA3)⟩, _, rfl, _, rfl, by show 3 ≤ sizeLine; decide, fun e5 m5 => ?_⟩
      have t11 := same_upd (o := .tup [.str "joins", .int (t : Int), .ref pp]) m5
      have d5 : upd J0 e5 (.tup [.str "joins", .int (t : Int), .ref pp]) e5 = some (.tup [.str "joins", .int (t : Int), .ref pp]) := upd_same
      generalize (upd J0 e5 (.tup [.str "joins", .int (t : Int), .ref pp]) : Hp) = J1 at t11 d5 ⊢
      have s71 := s70.trans t11
      refine ⟨A3, _, _, rfl, rfl, s71 _ _ hA3, by show 5 < sizeLine; decide, ?_⟩
      have U : Tups J1 (upd J1 A3 (.lst ([.ref e0, .ref e1, .ref e2, .ref e3, .ref e4] ++ [.ref e5]))) := tups_upd (s71 _ _ hA3)
      have hA : upd J1 A3 (.lst ([.ref e0, .ref e1, .ref e2, .ref e3, .ref e4] ++ [.ref e5])) A3 = some (.lst (rV (depsOf e0 e1 e2 e3 e4 e5 ls rs bs us es gs (([(b, bs), (pt, ps)].filter fz).map (·.2))))) := upd_same
      have t12 : Same I6 (upd J1 A3 (.lst ([.ref e0, .ref e1, .ref e2, .ref e3, .ref e4] ++ [.ref e5]))) := same_grow (t7.trans s71) nA3
      generalize (upd J1 A3 (.lst ([.ref e0, .ref e1, .ref e2, .ref e3, .ref e4] ++ [.ref e5])) : Hp) = J at U hA t12 ⊢
      have sJ : Same H10 J := s18.trans (((((((t0.trans t1).trans t2).trans t3).trans t4).trans t5).trans t6).trans t12)
      have hstJ : StoreAt J st T := hst10.same sJ
      have hscJ : TupAt J sc xs := sJ _ _ hsc10
      have hlJ : TupAt J l ls := sJ _ _ hl
      have hrJ : TupAt J r rs := sJ _ _ hr
      have stand := C.stand (H := J) (hstJ.tab _ mT) wid six (U _ _ (t11 _ _ hpp)) (U _ _ (s71 _ _ hb7)) (U _ _ ((t10.trans t11) _ _ hp9)) hlJ hrJ (U _ _ (s71 _ _ he7)) (U _ _ ((s07.trans s71) _ _ hu18)) (U _ _ ((s07.trans s71) _ _ hg))
        (U _ _ (s71 _ _ f0)) (U _ _ (s71 _ _ f1)) (U _ _ (s71 _ _ f2)) (U _ _ (s71 _ _ f3)) (U _ _ (s71 _ _ f4)) (U _ _ d5)
      have alike := C.all (R := L.map (·.2)) (e0 := e0) (e1 := e1) (e2 := e2) (e3 := e3) (e4 := e4) (e5 := e5) (b := b) (pt := pt)
      have first : (depsOf e0 e1 e2 e3 e4 e5 ls rs bs us es gs (([(b, bs), (pt, ps)].filter fz).map (·.2)))[0]? = some (e0, .deals ls rs) := rfl
      have len6 : (depsOf e0 e1 e2 e3 e4 e5 ls rs bs us es gs (([(b, bs), (pt, ps)].filter fz).map (·.2))).length = 6 := rfl
      generalize (depsOf e0 e1 e2 e3 e4 e5 ls rs bs us es gs (([(b, bs), (pt, ps)].filter fz).map (·.2))) = deps at hA stand alike first len6
      clear C
      obtain ⟨b0, hb0⟩ := some_bool (Deals n (L.map (·.2)) ls rs)
      dsimp only [List.set_cons_succ, List.set_cons_zero]
      -- told
      refine ⟨_, rfl, A3, rfl, ⟨_, SqL.of hA⟩, fun D6 nD6 => lc_list (xs := rV deps) (fun i H' => Same J H' ∧ H' D6 = some (.lst ((List.replicate i b0).map V.bl))) ⟨same_upd nD6, upd_same⟩ (fun i H' _ p => SqL.of (p.1 _ _ hA)) (fun i x J2 hx p => ?_) fun J2 p => ?_⟩
      · obtain ⟨sK, hK⟩ := p
        obtain ⟨y, hy, rfl⟩ := rV_get hx
        have my : y ∈ deps := List.mem_of_getElem? hy
        have hi : i < 6 := by
          rw [← len6]
          exact (List.getElem?_eq_some_iff.mp hy).1
        refine ⟨rfl, yes_turn ?_⟩
        refine ⟨_, rfl, _, rfl, _, rfl, sc, st, y.1, xs, T, t, n, tb, L, y.2, rfl, ⟨sK _ _ hscJ, hstJ.same sK, hT, hn, (stand y my).same sK⟩, fun bb H' s' hbb => ?_⟩
        refine ⟨_, s' _ _ hK, ?_, same_grow (sK.trans s') nD6, ?_⟩
        · rw [List.length_map, List.length_replicate]
          exact small_of (Nat.le_of_lt hi) (by decide)
        · rw [upd_same, bool_eq (hbb.trans (alike y my)) hb0, List.replicate_succ', List.map_append]
          rfl
      obtain ⟨sK, hK⟩ := p
      rw [rV_length, len6] at hK
      dsimp only [List.set_cons_succ, List.set_cons_zero]
      -- the six answers are one
      refine ⟨_, rfl, _, rfl, D6, _, 0, .bl b0, rfl, rfl, SqL.of hK, atI_nat (j := 0) rfl, by show 1 ≤ sizeLine; decide, fun O nO => ⟨O, 6, _, rfl, rfl, upd_same, by decide, by decide, by show 6 ≤ sizeLine; decide, fun Y nY => ?_⟩⟩
      have sY := (same_upd (o := .lst [.bl b0]) nO).trans (same_upd (o := .lst (List.replicate (6 : Int).toNat [V.bl b0]).flatten) nY)
      refine neD_bls (ns := List.replicate 6 b0) (ms := List.replicate 6 b0) (sY _ _ hK) upd_same ⟨_, rfl, ite2 (fun h => ?_) fun _ => ?_⟩
      · rw [decide_eq_true rfl] at h
        cases h
      refine ⟨_, rfl, A3, rfl, ⟨_, SqL.of (sY _ _ (sK _ _ hA))⟩, fun D7 nD7 => ?_⟩
      refine lc_list (xs := rV deps) (fun i H' => Same J2 H' ∧ H' D7 = some (.lst ((List.replicate i b0).map V.bl))) ⟨sY.trans (same_upd nD7), upd_same⟩ (fun i H' _ p => SqL.of (p.1 _ _ (sK _ _ hA))) (fun i x J3 hx p => ?_) fun J3 p => ?_
      · obtain ⟨sM, hM⟩ := p
        obtain ⟨y, hy, rfl⟩ := rV_get hx
        have my : y ∈ deps := List.mem_of_getElem? hy
        have hi : i < 6 := by
          rw [← len6]
          exact (List.getElem?_eq_some_iff.mp hy).1
        have sKM := sK.trans sM
        refine ⟨rfl, yes_turn ?_⟩
        refine ⟨_, rfl, _, rfl, _, rfl, sc, st, y.1, xs, T, t, n, tb, L, y.2, rfl, ⟨sKM _ _ hscJ, hstJ.same sKM, hT, hn, (stand y my).same sKM⟩, fun v H' s' hv => ⟨rfl, ?_⟩⟩
        refine ⟨_, s' _ _ hM, ?_, same_grow (sM.trans s') (sY.free nD7), ?_⟩
        · rw [List.length_map, List.length_replicate]
          exact small_of (Nat.le_of_lt hi) (by decide)
        · rw [upd_same, bool_eq (a := decide (v = V.non)) ((decide_eq_true_iff.trans hv).trans (alike y my)) hb0, List.replicate_succ', List.map_append]
          rfl
      obtain ⟨sM, hM⟩ := p
      rw [rV_length, len6] at hM
      have sKM := sK.trans sM
      refine ⟨_, rfl, neD_bls (ns := List.replicate 6 b0) (ms := List.replicate 6 b0) hM (sM _ _ hK) ⟨_, rfl, ite2 (fun h => ?_) fun _ => ?_⟩⟩
      · rw [decide_eq_true rfl] at h
        cases h
      dsimp only [List.set_cons_succ, List.set_cons_zero]
      -- the thinned store
      have hst3 : StoreAt J3 st T := hstJ.same sKM
      refine ⟨_, rfl, _, rfl, _, rfl, st, _, rfl, SqT.of hst3.tup, fun h => absurd h (part_of_take htT), fun _ p1 np1 => ?_⟩
      rw [cut_take T t (Nat.le_of_lt htT)]
      have v1 := same_upd (o := .tup (rV (T.take t))) np1
      have hp1 : upd J3 p1 (.tup (rV (T.take t))) p1 = some (.tup (rV (T.take t))) := upd_same
      generalize (upd J3 p1 (.tup (rV (T.take t))) : Hp) = K1 at v1 hp1 ⊢
      have lenT : T.length ≤ 6 := by
        rw [f6.len]
        exact xs6
      have rowT : atI (rV T) (t : Int) = some (.ref tb) := atI_nat (j := t) (by
        show (T.map fun p => V.ref p.1)[t]? = _
        rw [List.getElem?_map, hT]
        rfl)
      have sJ1 := sKM.trans v1
      have ask1 : Asked K1 n tb l r L ls rs := ⟨(hstJ.same sJ1).tab _ mT, sJ1 _ _ hlJ, sJ1 _ _ hrJ, wid, inL, inR, by omega, by omega, by omega, by omega⟩
      refine ⟨_, rfl, _, rfl, st, _, (t : Int), _, rfl, rfl, SqT.of (sJ1 _ _ hstJ.tup), rowT, _, rfl, _, rfl, n, tb, l, r, L, ls, rs, rfl, ask1, fun K2 tp v2 ntp htp => ⟨by show 1 ≤ sizeLine; decide, fun q1 nq1 => ?_⟩⟩
      have v3 := same_upd (o := .tup [.ref tp]) nq1
      have hq1 : upd K2 q1 (.tup [.ref tp]) q1 = some (.tup [.ref tp]) := upd_same
      generalize (upd K2 q1 (.tup [.ref tp]) : Hp) = K3 at v3 hq1 ⊢
      refine cat_any ((v2.trans v3) _ _ hp1) hq1 (by rw [rV_length, List.length_take]; show _ + 1 ≤ 900; omega) fun z1 K4 v4 hz1 => ?_
      have sJ4 := ((sJ1.trans v2).trans v3).trans v4
      refine ⟨_, rfl, _, rfl, _, _, rfl, rfl, _, rfl, st, _, rfl, SqT.of (sJ4 _ _ hstJ.tup), fun h => absurd h (part_of_drop htT), fun _ p2 np2 => ?_⟩
      have v5 := same_upd (o := .tup (cutV (rV T) (some ((t : Int) + 1)) none)) np2
      have hp2 : upd K4 p2 (.tup (cutV (rV T) (some ((t : Int) + 1)) none)) p2 = some (.tup (rV (T.drop (t + 1)))) := by
        rw [upd_same]
        exact congrArg (fun z => some (HO.tup z)) (cut_drop T (t + 1) htT)
      generalize (upd K4 p2 (.tup (cutV (rV T) (some ((t : Int) + 1)) none)) : Hp) = K5 at v5 hp2 ⊢
      refine cat_any (v5 _ _ hz1) hp2 (by rw [List.length_append, rV_length, rV_length, List.length_take, List.length_drop]; show _ + 1 + _ ≤ 900; omega) fun th K6 v6 hth => ?_
      have v36 := (v3.trans v4).trans (v5.trans v6)
      have sJ6 := (sJ4.trans v5).trans v6
      obtain ⟨hst6, hT6⟩ := (hstJ.same sJ6).swap htT (htp.same v36) hth
      have ask6 : Asked K6 n tp l r (thin (·.2) ls rs L) ls rs := (ask1.same (v2.trans v36)).other (htp.same v36) (thin_sub (·.2) ls rs L) (thin_length (·.2) ls rs L)
      have setl := thin_settles (·.2) ls rs L
      generalize (T.take t ++ [(tp, thin (·.2) ls rs L)] ++ T.drop (t + 1)) = T' at hst6 hT6
      dsimp only [List.set_cons_succ, List.set_cons_zero]
      -- the thinned table settles
      refine ⟨_, rfl, _, rfl, _, rfl, _, rfl, _, rfl, by show 4 ≤ sizeLine; decide, fun q2 nq2 => ?_⟩
      have v7 := same_upd (o := .tup [.str "settles", .int (t : Int), .ref l, .ref r]) nq2
      have hq2 : upd K6 q2 (.tup [.str "settles", .int (t : Int), .ref l, .ref r]) q2 = some (.tup [.str "settles", .int (t : Int), .ref l, .ref r]) := upd_same
      generalize (upd K6 q2 (.tup [.str "settles", .int (t : Int), .ref l, .ref r]) : Hp) = K7 at v7 hq2 ⊢
      refine ⟨sc, th, q2, xs, T', t, n, tp, _, .settles ls rs, rfl, ⟨(sJ6.trans v7) _ _ hscJ, hst6.same v7, hT6, hn, ⟨l, r, hq2, ask6.same v7⟩⟩, fun b1 K8 v8 hb1 => ⟨_, rfl, ite2 (fun h => ?_) fun _ => ?_⟩⟩
      · have e1 : b1 = true := hb1.mpr setl
        rw [e1] at h
        cases h
      -- and deals
      have sJ8 := (sJ6.trans v7).trans v8
      have at0 : atI (rV deps) 0 = some (.ref e0) := atI_nat (j := 0) (by
        show (deps.map fun p => V.ref p.1)[0]? = _
        rw [List.getElem?_map, first]
        rfl)
      obtain ⟨l', r', hd0, ask0⟩ := (stand (e0, .deals ls rs) (List.mem_of_getElem? first)).same sJ8
      refine ⟨_, rfl, _, rfl, _, rfl, A3, _, 0, _, rfl, rfl, SqL.of (sJ8 _ _ hA), at0, ?_⟩
      refine ⟨sc, th, e0, xs, T', t, n, tp, _, .deals ls rs, rfl, ⟨sJ8 _ _ hscJ, hst6.same (v7.trans v8), hT6, hn, ⟨l', r', hd0, ask0.other ((htp.same v36).same (v7.trans v8)) (thin_sub (·.2) ls rs L) (thin_length (·.2) ls rs L)⟩⟩, fun b2 K9 v9 hb2 => ⟨_, rfl, ite2 (fun h => ?_) fun _ => ?_⟩⟩
      · have e2 : b2 = true := hb2.mpr (settles_deals (fun a ha => by
          obtain ⟨p, hp, rfl⟩ := List.mem_map.mp ha
          exact ask6.wide p hp) setl)
        rw [e2] at h
        cases h
      exact ⟨_, _, _, _, _, _, _, _, _, _, _, _, _, rfl, X10.then (sJ.trans (sJ8.trans v9))⟩
    · rintro σ H6 ⟨y5, y6, y7, y8, y9, y10, y11, y12, y13, y14, y15, y16, y17, rfl, x6⟩
      exact q H6
end
end N22
set_option Elab.async false
set_option linter.all false
set_option maxRecDepth 100000
set_option maxHeartbeats 4000000
/-! What the top has written; the law's own head. -/
namespace N22
open PySem PySem.Spec PyProof.Rows L2
theorem all_mk {l : PySem.W.OpenLaw} {w : World} {K : PySem.W.Frag} {h : Heap} {mg : Str → Option Value} {fa : Addr} (X : K.In h) (G : h.Ns mainGlobals mg) (hfa : mg "law" = some (.ref fa))
    {f0 : Addr} {od0 an0 : Option Addr} {sl0 : Array (Option Value)} {oc0 kV0 dc0 pm0 cd0 ct0 : Value}
    (a0 : PySem.W.nsIn K mainGlobals "picked" = some (some (.ref f0))) (l0 : K.lookup f0 = some ⟨oc0, od0, .func (PySem.W.fnOf "picked" "picked" (defArgs sPicked) (defBody sPicked) (defScope sPicked) .none kV0 dc0 pm0 an0 cd0 ct0), sl0⟩) (c0 : PySem.W.codeIn K cd0 "picked" = true) (k0 : PySem.W.keepIn K (.ref f0) = true)
    {f1 : Addr} {od1 an1 : Option Addr} {sl1 : Array (Option Value)} {oc1 kV1 dc1 pm1 cd1 ct1 : Value}
    (a1 : PySem.W.nsIn K mainGlobals "projected" = some (some (.ref f1))) (l1 : K.lookup f1 = some ⟨oc1, od1, .func (PySem.W.fnOf "projected" "projected" (defArgs sProjected) (defBody sProjected) (defScope sProjected) .none kV1 dc1 pm1 an1 cd1 ct1), sl1⟩) (c1 : PySem.W.codeIn K cd1 "projected" = true) (k1 : PySem.W.keepIn K (.ref f1) = true)
    {f2 : Addr} {od2 an2 : Option Addr} {sl2 : Array (Option Value)} {oc2 kV2 dc2 pm2 cd2 ct2 : Value}
    (a2 : PySem.W.nsIn K mainGlobals "extended" = some (some (.ref f2))) (l2 : K.lookup f2 = some ⟨oc2, od2, .func (PySem.W.fnOf "extended" "extended" (defArgs sExtended) (defBody sExtended) (defScope sExtended) .none kV2 dc2 pm2 an2 cd2 ct2), sl2⟩) (c2 : PySem.W.codeIn K cd2 "extended" = true) (k2 : PySem.W.keepIn K (.ref f2) = true)
    {f3 : Addr} {od3 an3 : Option Addr} {sl3 : Array (Option Value)} {oc3 kV3 dc3 pm3 cd3 ct3 : Value}
    (a3 : PySem.W.nsIn K mainGlobals "joined" = some (some (.ref f3))) (l3 : K.lookup f3 = some ⟨oc3, od3, .func (PySem.W.fnOf "joined" "joined" (defArgs sJoined) (defBody sJoined) (defScope sJoined) .none kV3 dc3 pm3 an3 cd3 ct3), sl3⟩) (c3 : PySem.W.codeIn K cd3 "joined" = true) (k3 : PySem.W.keepIn K (.ref f3) = true)
    {f4 : Addr} {od4 an4 : Option Addr} {sl4 : Array (Option Value)} {oc4 kV4 dc4 pm4 cd4 ct4 : Value}
    (a4 : PySem.W.nsIn K mainGlobals "agree" = some (some (.ref f4))) (l4 : K.lookup f4 = some ⟨oc4, od4, .func (PySem.W.fnOf "agree" "agree" (defArgs sAgree) (defBody sAgree) (defScope sAgree) .none kV4 dc4 pm4 an4 cd4 ct4), sl4⟩) (c4 : PySem.W.codeIn K cd4 "agree" = true) (k4 : PySem.W.keepIn K (.ref f4) = true)
    {f5 : Addr} {od5 an5 : Option Addr} {sl5 : Array (Option Value)} {oc5 kV5 dc5 pm5 cd5 ct5 : Value}
    (a5 : PySem.W.nsIn K mainGlobals "dealt_row" = some (some (.ref f5))) (l5 : K.lookup f5 = some ⟨oc5, od5, .func (PySem.W.fnOf "dealt_row" "dealt_row" (defArgs sDealtRow) (defBody sDealtRow) (defScope sDealtRow) .none kV5 dc5 pm5 an5 cd5 ct5), sl5⟩) (c5 : PySem.W.codeIn K cd5 "dealt_row" = true) (k5 : PySem.W.keepIn K (.ref f5) = true)
    {f6 : Addr} {od6 an6 : Option Addr} {sl6 : Array (Option Value)} {oc6 kV6 dc6 pm6 cd6 ct6 : Value}
    (a6 : PySem.W.nsIn K mainGlobals "settles_breach" = some (some (.ref f6))) (l6 : K.lookup f6 = some ⟨oc6, od6, .func (PySem.W.fnOf "settles_breach" "settles_breach" (defArgs sSettlesBreach) (defBody sSettlesBreach) (defScope sSettlesBreach) .none kV6 dc6 pm6 an6 cd6 ct6), sl6⟩) (c6 : PySem.W.codeIn K cd6 "settles_breach" = true) (k6 : PySem.W.keepIn K (.ref f6) = true)
    {f7 : Addr} {od7 an7 : Option Addr} {sl7 : Array (Option Value)} {oc7 kV7 dc7 pm7 cd7 ct7 : Value}
    (a7 : PySem.W.nsIn K mainGlobals "deals_breach" = some (some (.ref f7))) (l7 : K.lookup f7 = some ⟨oc7, od7, .func (PySem.W.fnOf "deals_breach" "deals_breach" (defArgs sDealsBreach) (defBody sDealsBreach) (defScope sDealsBreach) .none kV7 dc7 pm7 an7 cd7 ct7), sl7⟩) (c7 : PySem.W.codeIn K cd7 "deals_breach" = true) (k7 : PySem.W.keepIn K (.ref f7) = true)
    {f8 : Addr} {od8 an8 : Option Addr} {sl8 : Array (Option Value)} {oc8 kV8 dc8 pm8 cd8 ct8 : Value}
    (a8 : PySem.W.nsIn K mainGlobals "joins_breach" = some (some (.ref f8))) (l8 : K.lookup f8 = some ⟨oc8, od8, .func (PySem.W.fnOf "joins_breach" "joins_breach" (defArgs sJoinsBreach) (defBody sJoinsBreach) (defScope sJoinsBreach) .none kV8 dc8 pm8 an8 cd8 ct8), sl8⟩) (c8 : PySem.W.codeIn K cd8 "joins_breach" = true) (k8 : PySem.W.keepIn K (.ref f8) = true)
    {f9 : Addr} {od9 an9 : Option Addr} {sl9 : Array (Option Value)} {oc9 kV9 dc9 pm9 cd9 ct9 : Value}
    (a9 : PySem.W.nsIn K mainGlobals "least_breach" = some (some (.ref f9))) (l9 : K.lookup f9 = some ⟨oc9, od9, .func (PySem.W.fnOf "least_breach" "least_breach" (defArgs sLeastBreach) (defBody sLeastBreach) (defScope sLeastBreach) .none kV9 dc9 pm9 an9 cd9 ct9), sl9⟩) (c9 : PySem.W.codeIn K cd9 "least_breach" = true) (k9 : PySem.W.keepIn K (.ref f9) = true)
    {f10 : Addr} {od10 an10 : Option Addr} {sl10 : Array (Option Value)} {oc10 kV10 dc10 pm10 cd10 ct10 : Value}
    (a10 : PySem.W.nsIn K mainGlobals "keeps" = some (some (.ref f10))) (l10 : K.lookup f10 = some ⟨oc10, od10, .func (PySem.W.fnOf "keeps" "keeps" (defArgs sKeeps) (defBody sKeeps) (defScope sKeeps) .none kV10 dc10 pm10 an10 cd10 ct10), sl10⟩) (c10 : PySem.W.codeIn K cd10 "keeps" = true) (k10 : PySem.W.keepIn K (.ref f10) = true)
    {f11 : Addr} {od11 an11 : Option Addr} {sl11 : Array (Option Value)} {oc11 kV11 dc11 pm11 cd11 ct11 : Value}
    (a11 : PySem.W.nsIn K mainGlobals "_law_draws" = some (some (.ref f11))) (l11 : K.lookup f11 = some ⟨oc11, od11, .func (PySem.W.fnOf "_law_draws" "_law_draws" (defArgs sDraws) (defBody sDraws) (defScope sDraws) .none kV11 dc11 pm11 an11 cd11 ct11), sl11⟩) (c11 : PySem.W.codeIn K cd11 "_law_draws" = true) (k11 : PySem.W.keepIn K (.ref f11) = true)
    {f12 : Addr} {od12 an12 : Option Addr} {sl12 : Array (Option Value)} {oc12 kV12 dc12 pm12 cd12 ct12 : Value}
    (a12 : PySem.W.nsIn K mainGlobals "_law_take" = some (some (.ref f12))) (l12 : K.lookup f12 = some ⟨oc12, od12, .func (PySem.W.fnOf "_law_take" "_law_take" (defArgs sTake) (defBody sTake) (defScope sTake) .none kV12 dc12 pm12 an12 cd12 ct12), sl12⟩) (c12 : PySem.W.codeIn K cd12 "_law_take" = true) (k12 : PySem.W.keepIn K (.ref f12) = true)
    {f13 : Addr} {od13 an13 : Option Addr} {sl13 : Array (Option Value)} {oc13 kV13 dc13 pm13 cd13 ct13 : Value}
    (a13 : PySem.W.nsIn K mainGlobals "_law_cell" = some (some (.ref f13))) (l13 : K.lookup f13 = some ⟨oc13, od13, .func (PySem.W.fnOf "_law_cell" "_law_cell" (defArgs sCell) (defBody sCell) (defScope sCell) .none kV13 dc13 pm13 an13 cd13 ct13), sl13⟩) (c13 : PySem.W.codeIn K cd13 "_law_cell" = true) (k13 : PySem.W.keepIn K (.ref f13) = true)
    {f14 : Addr} {od14 an14 : Option Addr} {sl14 : Array (Option Value)} {oc14 kV14 dc14 pm14 cd14 ct14 : Value}
    (a14 : PySem.W.nsIn K mainGlobals "_law_columns" = some (some (.ref f14))) (l14 : K.lookup f14 = some ⟨oc14, od14, .func (PySem.W.fnOf "_law_columns" "_law_columns" (defArgs sColumns) (defBody sColumns) (defScope sColumns) .none kV14 dc14 pm14 an14 cd14 ct14), sl14⟩) (c14 : PySem.W.codeIn K cd14 "_law_columns" = true) (k14 : PySem.W.keepIn K (.ref f14) = true)
    {f15 : Addr} {od15 an15 : Option Addr} {sl15 : Array (Option Value)} {oc15 kV15 dc15 pm15 cd15 ct15 : Value}
    (a15 : PySem.W.nsIn K mainGlobals "_law_scheme" = some (some (.ref f15))) (l15 : K.lookup f15 = some ⟨oc15, od15, .func (PySem.W.fnOf "_law_scheme" "_law_scheme" (defArgs sScheme) (defBody sScheme) (defScope sScheme) .none kV15 dc15 pm15 an15 cd15 ct15), sl15⟩) (c15 : PySem.W.codeIn K cd15 "_law_scheme" = true) (k15 : PySem.W.keepIn K (.ref f15) = true)
    {f16 : Addr} {od16 an16 : Option Addr} {sl16 : Array (Option Value)} {oc16 kV16 dc16 pm16 cd16 ct16 : Value}
    (a16 : PySem.W.nsIn K mainGlobals "_law_wide" = some (some (.ref f16))) (l16 : K.lookup f16 = some ⟨oc16, od16, .func (PySem.W.fnOf "_law_wide" "_law_wide" (defArgs sWide) (defBody sWide) (defScope sWide) .none kV16 dc16 pm16 an16 cd16 ct16), sl16⟩) (c16 : PySem.W.codeIn K cd16 "_law_wide" = true) (k16 : PySem.W.keepIn K (.ref f16) = true)
    {f17 : Addr} {od17 an17 : Option Addr} {sl17 : Array (Option Value)} {oc17 kV17 dc17 pm17 cd17 ct17 : Value}
    (a17 : PySem.W.nsIn K mainGlobals "_law_rows" = some (some (.ref f17))) (l17 : K.lookup f17 = some ⟨oc17, od17, .func (PySem.W.fnOf "_law_rows" "_law_rows" (defArgs sRows) (defBody sRows) (defScope sRows) .none kV17 dc17 pm17 an17 cd17 ct17), sl17⟩) (c17 : PySem.W.codeIn K cd17 "_law_rows" = true) (k17 : PySem.W.keepIn K (.ref f17) = true)
    {f18 : Addr} {od18 an18 : Option Addr} {sl18 : Array (Option Value)} {oc18 kV18 dc18 pm18 cd18 ct18 : Value}
    (a18 : PySem.W.nsIn K mainGlobals "_law_store" = some (some (.ref f18))) (l18 : K.lookup f18 = some ⟨oc18, od18, .func (PySem.W.fnOf "_law_store" "_law_store" (defArgs sStore) (defBody sStore) (defScope sStore) .none kV18 dc18 pm18 an18 cd18 ct18), sl18⟩) (c18 : PySem.W.codeIn K cd18 "_law_store" = true) (k18 : PySem.W.keepIn K (.ref f18) = true)
    {f19 : Addr} {od19 an19 : Option Addr} {sl19 : Array (Option Value)} {oc19 kV19 dc19 pm19 cd19 ct19 : Value}
    (a19 : PySem.W.nsIn K mainGlobals "_law_agree" = some (some (.ref f19))) (l19 : K.lookup f19 = some ⟨oc19, od19, .func (PySem.W.fnOf "_law_agree" "_law_agree" (defArgs sLAgree) (defBody sLAgree) (defScope sLAgree) .none kV19 dc19 pm19 an19 cd19 ct19), sl19⟩) (c19 : PySem.W.codeIn K cd19 "_law_agree" = true) (k19 : PySem.W.keepIn K (.ref f19) = true)
    {f20 : Addr} {od20 an20 : Option Addr} {sl20 : Array (Option Value)} {oc20 kV20 dc20 pm20 cd20 ct20 : Value}
    (a20 : PySem.W.nsIn K mainGlobals "_law_thinned" = some (some (.ref f20))) (l20 : K.lookup f20 = some ⟨oc20, od20, .func (PySem.W.fnOf "_law_thinned" "_law_thinned" (defArgs sThinned) (defBody sThinned) (defScope sThinned) .none kV20 dc20 pm20 an20 cd20 ct20), sl20⟩) (c20 : PySem.W.codeIn K cd20 "_law_thinned" = true) (k20 : PySem.W.keepIn K (.ref f20) = true)
    {f21 : Addr} {od21 an21 : Option Addr} {sl21 : Array (Option Value)} {oc21 kV21 dc21 pm21 cd21 ct21 : Value}
    (a21 : PySem.W.nsIn K mainGlobals "law" = some (some (.ref f21))) (l21 : K.lookup f21 = some ⟨oc21, od21, .func (PySem.W.fnOf "law" "law" (defArgs sLaw) (defBody sLaw) (defScope sLaw) .none kV21 dc21 pm21 an21 cd21 ct21), sl21⟩) (c21 : PySem.W.codeIn K cd21 "law" = true) (k21 : PySem.W.keepIn K (.ref f21) = true)
    (z0 : PySem.W.nsIn K mainGlobals "tuple" = some none) (z1 : PySem.W.nsIn K mainGlobals "sorted" = some none) (z2 : PySem.W.nsIn K mainGlobals "set" = some none) (z3 : PySem.W.nsIn K mainGlobals "list" = some none) (z4 : PySem.W.nsIn K mainGlobals "range" = some none) (z5 : PySem.W.nsIn K mainGlobals "zip" = some none) (z6 : PySem.W.nsIn K mainGlobals "all" = some none) (z7 : PySem.W.nsIn K mainGlobals "dict" = some none) (z8 : PySem.W.nsIn K mainGlobals "len" = some none) (z9 : PySem.W.nsIn K mainGlobals "int" = some none) :
    ∃ fd : FuncData, (∀ (s : Shared) (v : Value), BindsTo s fd ⟨[v], []⟩ [("_law_script", v)]) ∧ ∀ base : Heap, K.In base → base.Ns mainGlobals mg → FnOk l.prog w K mg base CX0 6 fa fd ["_law_script"] (spLaw K) := by
  have e := hfa.symm.trans (PySem.W.mg_of X G a21)
  cases e
  have F0 := fun_mk (st := sPicked) l0 c0 k0
  have b0 := F0.binds (ps := ["row", "columns"]) fun _ _ _ _ _ _ us hl => match us, hl with | [_, _], _ => rfl
  have F1 := fun_mk (st := sProjected) l1 c1 k1
  have b1 := F1.binds (ps := ["rows", "columns"]) fun _ _ _ _ _ _ us hl => match us, hl with | [_, _], _ => rfl
  have F2 := fun_mk (st := sExtended) l2 c2 k2
  have b2 := F2.binds (ps := ["found", "rows", "part"]) fun _ _ _ _ _ _ us hl => match us, hl with | [_, _, _], _ => rfl
  have F3 := fun_mk (st := sJoined) l3 c3 k3
  have b3 := F3.binds (ps := ["width", "projections", "parts"]) fun _ _ _ _ _ _ us hl => match us, hl with | [_, _, _], _ => rfl
  have F4 := fun_mk (st := sAgree) l4 c4 k4
  have b4 := F4.binds (ps := ["one", "other", "columns"]) fun _ _ _ _ _ _ us hl => match us, hl with | [_, _, _], _ => rfl
  have F5 := fun_mk (st := sDealtRow) l5 c5 k5
  have b5 := F5.binds (ps := ["one", "other", "left", "right"]) fun _ _ _ _ _ _ us hl => match us, hl with | [_, _, _, _], _ => rfl
  have F6 := fun_mk (st := sSettlesBreach) l6 c6 k6
  have b6 := F6.binds (ps := ["rows", "left", "right"]) fun _ _ _ _ _ _ us hl => match us, hl with | [_, _, _], _ => rfl
  have F7 := fun_mk (st := sDealsBreach) l7 c7 k7
  have b7 := F7.binds (ps := ["rows", "left", "right"]) fun _ _ _ _ _ _ us hl => match us, hl with | [_, _, _], _ => rfl
  have F8 := fun_mk (st := sJoinsBreach) l8 c8 k8
  have b8 := F8.binds (ps := ["width", "rows", "parts"]) fun _ _ _ _ _ _ us hl => match us, hl with | [_, _, _], _ => rfl
  have F9 := fun_mk (st := sLeastBreach) l9 c9 k9
  have b9 := F9.binds (ps := ["scheme", "store", "dependency"]) fun _ _ _ _ _ _ us hl => match us, hl with | [_, _, _], _ => rfl
  have F10 := fun_mk (st := sKeeps) l10 c10 k10
  have b10 := F10.binds (ps := ["scheme", "store", "dependency"]) fun _ _ _ _ _ _ us hl => match us, hl with | [_, _, _], _ => rfl
  have F11 := fun_mk (st := sDraws) l11 c11 k11
  have b11 := F11.binds (ps := ["_law_script", "_law_many"]) fun _ _ _ _ _ _ us hl => match us, hl with | [_, _], _ => rfl
  have F12 := fun_mk (st := sTake) l12 c12 k12
  have b12 := F12.binds (ps := ["_law_draws_here", "_law_many"]) fun _ _ _ _ _ _ us hl => match us, hl with | [_, _], _ => rfl
  have F13 := fun_mk (st := sCell) l13 c13 k13
  have b13 := F13.binds (ps := ["_law_script", "_law_draws_here"]) fun _ _ _ _ _ _ us hl => match us, hl with | [_, _], _ => rfl
  have F14 := fun_mk (st := sColumns) l14 c14 k14
  have b14 := F14.binds (ps := ["_law_draws_here", "_law_width"]) fun _ _ _ _ _ _ us hl => match us, hl with | [_, _], _ => rfl
  have F15 := fun_mk (st := sScheme) l15 c15 k15
  have b15 := F15.binds (ps := ["_law_draws_here"]) fun _ _ _ _ _ _ us hl => match us, hl with | [_], _ => rfl
  have F16 := fun_mk (st := sWide) l16 c16 k16
  have b16 := F16.binds (ps := ["_law_draws_here", "_law_cell_here"]) fun _ _ _ _ _ _ us hl => match us, hl with | [_, _], _ => rfl
  have F17 := fun_mk (st := sRows) l17 c17 k17
  have b17 := F17.binds (ps := ["_law_draws_here", "_law_width", "_law_most", "_law_wide_here"]) fun _ _ _ _ _ _ us hl => match us, hl with | [_, _, _, _], _ => rfl
  have F18 := fun_mk (st := sStore) l18 c18 k18
  have b18 := F18.binds (ps := ["_law_draws_here", "_law_scheme_here", "_law_most", "_law_wide_here"]) fun _ _ _ _ _ _ us hl => match us, hl with | [_, _, _, _], _ => rfl
  have F19 := fun_mk (st := sLAgree) l19 c19 k19
  have b19 := F19.binds (ps := ["_law_one", "_law_other", "_law_columns_here"]) fun _ _ _ _ _ _ us hl => match us, hl with | [_, _, _], _ => rfl
  have F20 := fun_mk (st := sThinned) l20 c20 k20
  have b20 := F20.binds (ps := ["_law_rows_here", "_law_left", "_law_right"]) fun _ _ _ _ _ _ us hl => match us, hl with | [_, _, _], _ => rfl
  have F21 := fun_mk (st := sLaw) l21 c21 k21
  have T : Defs K mg := ⟨⟨_, _, F0, b0, PySem.W.mg_of X G a0⟩, ⟨_, _, F1, b1, PySem.W.mg_of X G a1⟩, ⟨_, _, F2, b2, PySem.W.mg_of X G a2⟩, ⟨_, _, F3, b3, PySem.W.mg_of X G a3⟩, ⟨_, _, F4, b4, PySem.W.mg_of X G a4⟩, ⟨_, _, F5, b5, PySem.W.mg_of X G a5⟩, ⟨_, _, F6, b6, PySem.W.mg_of X G a6⟩, ⟨_, _, F7, b7, PySem.W.mg_of X G a7⟩, ⟨_, _, F8, b8, PySem.W.mg_of X G a8⟩, ⟨_, _, F9, b9, PySem.W.mg_of X G a9⟩, ⟨_, _, F10, b10, PySem.W.mg_of X G a10⟩, PySem.W.mg_none_of X G z0, PySem.W.mg_none_of X G z1, PySem.W.mg_none_of X G z2, PySem.W.mg_none_of X G z3, PySem.W.mg_none_of X G z4, PySem.W.mg_none_of X G z5, PySem.W.mg_none_of X G z6, PySem.W.mg_none_of X G z7, PySem.W.mg_none_of X G z8, PySem.W.mg_none_of X G z9⟩
  have TL : LDefs K mg := ⟨⟨_, _, F11, b11, PySem.W.mg_of X G a11⟩, ⟨_, _, F12, b12, PySem.W.mg_of X G a12⟩, ⟨_, _, F13, b13, PySem.W.mg_of X G a13⟩, ⟨_, _, F14, b14, PySem.W.mg_of X G a14⟩, ⟨_, _, F15, b15, PySem.W.mg_of X G a15⟩, ⟨_, _, F16, b16, PySem.W.mg_of X G a16⟩, ⟨_, _, F17, b17, PySem.W.mg_of X G a17⟩, ⟨_, _, F18, b18, PySem.W.mg_of X G a18⟩, ⟨_, _, F19, b19, PySem.W.mg_of X G a19⟩, ⟨_, _, F20, b20, PySem.W.mg_of X G a20⟩⟩
  exact ⟨PySem.W.fnOf "law" "law" (defArgs sLaw) (defBody sLaw) (defScope sLaw) .none kV21 dc21 pm21 an21 cd21 ct21, fun s v => .of_eq rfl, fun base _ _ => ok_law F21 T TL⟩
end N22
open PySem PySem.W PyProof.Rows in
set_option maxRecDepth 100000 in
set_option maxHeartbeats 0 in
theorem PySem.Challenge.cw_norowstray_k22_whole_many_valued_are_joi_holds : PySem.Challenge.rw_norowstray_k22_whole_many_valued_are_joi.Holds := by
  w_on; o_law; k_head; (case hw => w_witness2)
  k_fill
  refine L2.walk_of (l := PySem.Challenge.rw_norowstray_k22_whole_many_valued_are_joi) (n := 63) (k := 6) (x := "_law_script") (CX := fun _ => L2.CX0) (sp := fun w => N22.spLaw _) rfl (by decide) rfl ⟨rfl, by decide, by decide⟩ (fun w h Y => PySem.W.kIn_of Y) ?F (fun _ H a ns hl hO hS => ⟨a, ns, rfl, N22.ScrAt.of hO hS, hl, fun _ => rfl⟩) (fun _ _ _ _ _ h => h)
  case F =>
    intro w mg fa h KX G hmg
    refine' N22.all_mk KX G hmg ?a0 ?l0 ?c0 ?k0 ?a1 ?l1 ?c1 ?k1 ?a2 ?l2 ?c2 ?k2 ?a3 ?l3 ?c3 ?k3 ?a4 ?l4 ?c4 ?k4 ?a5 ?l5 ?c5 ?k5 ?a6 ?l6 ?c6 ?k6 ?a7 ?l7 ?c7 ?k7 ?a8 ?l8 ?c8 ?k8 ?a9 ?l9 ?c9 ?k9 ?a10 ?l10 ?c10 ?k10 ?a11 ?l11 ?c11 ?k11 ?a12 ?l12 ?c12 ?k12 ?a13 ?l13 ?c13 ?k13 ?a14 ?l14 ?c14 ?k14 ?a15 ?l15 ?c15 ?k15 ?a16 ?l16 ?c16 ?k16 ?a17 ?l17 ?c17 ?k17 ?a18 ?l18 ?c18 ?k18 ?a19 ?l19 ?c19 ?k19 ?a20 ?l20 ?c20 ?k20 ?a21 ?l21 ?c21 ?k21 ?z0 ?z1 ?z2 ?z3 ?z4 ?z5 ?z6 ?z7 ?z8 ?z9
    (case a0 => k_is); (case l0 => k_is); (case c0 => k_is); (case k0 => k_is)
    (case a1 => k_is); (case l1 => k_is); (case c1 => k_is); (case k1 => k_is)
    (case a2 => k_is); (case l2 => k_is); (case c2 => k_is); (case k2 => k_is)
    (case a3 => k_is); (case l3 => k_is); (case c3 => k_is); (case k3 => k_is)
    (case a4 => k_is); (case l4 => k_is); (case c4 => k_is); (case k4 => k_is)
    (case a5 => k_is); (case l5 => k_is); (case c5 => k_is); (case k5 => k_is)
    (case a6 => k_is); (case l6 => k_is); (case c6 => k_is); (case k6 => k_is)
    (case a7 => k_is); (case l7 => k_is); (case c7 => k_is); (case k7 => k_is)
    (case a8 => k_is); (case l8 => k_is); (case c8 => k_is); (case k8 => k_is)
    (case a9 => k_is); (case l9 => k_is); (case c9 => k_is); (case k9 => k_is)
    (case a10 => k_is); (case l10 => k_is); (case c10 => k_is); (case k10 => k_is)
    (case a11 => k_is); (case l11 => k_is); (case c11 => k_is); (case k11 => k_is)
    (case a12 => k_is); (case l12 => k_is); (case c12 => k_is); (case k12 => k_is)
    (case a13 => k_is); (case l13 => k_is); (case c13 => k_is); (case k13 => k_is)
    (case a14 => k_is); (case l14 => k_is); (case c14 => k_is); (case k14 => k_is)
    (case a15 => k_is); (case l15 => k_is); (case c15 => k_is); (case k15 => k_is)
    (case a16 => k_is); (case l16 => k_is); (case c16 => k_is); (case k16 => k_is)
    (case a17 => k_is); (case l17 => k_is); (case c17 => k_is); (case k17 => k_is)
    (case a18 => k_is); (case l18 => k_is); (case c18 => k_is); (case k18 => k_is)
    (case a19 => k_is); (case l19 => k_is); (case c19 => k_is); (case k19 => k_is)
    (case a20 => k_is); (case l20 => k_is); (case c20 => k_is); (case k20 => k_is)
    (case a21 => k_is); (case l21 => k_is); (case c21 => k_is); (case k21 => k_is)
    (case z0 => k_is); (case z1 => k_is); (case z2 => k_is); (case z3 => k_is)
    (case z4 => k_is); (case z5 => k_is); (case z6 => k_is); (case z7 => k_is)
    (case z8 => k_is); (case z9 => k_is)
