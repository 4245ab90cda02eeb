import PyProof.Rows.All
import Wide.All
import OpenK.AllK
import Wide.FinOn
import HandS.ForMost
import HandS.AnyAll
import HandS.GenOver
import HandS.Walk
import HandS.TupAny
import KE.GoesEnum
import KE.GoesMore
import HandS.ForExc
import HandS.Flow
import HandS.Style
import HandS.IsInst
import HandS.Star
import HandS.Deep
import HandS.Wide
import HandS.ExcInit
import HandS.ExcIs
import HandS.ExcField
import HandS.Lambda
import HandS.EndOwn
import HandS.Conv
import KE.KExcIs
import PySem.Challenge.RW_starlands_k02_whole_takings
set_option Elab.async false
set_option linter.all false
set_option maxRecDepth 100000
set_option maxHeartbeats 4000000
section
/-! Plain mathematics: lands that hang together. -/
namespace SK
theorem nodup_len {α : Type} [DecidableEq α] : ∀ (a b : List α), a.Nodup → (∀ x ∈ a, x ∈ b) → a.length ≤ b.length
  | [], _, _, _ => Nat.zero_le _
  | x :: a, b, nd, h => by
    have hx : x ∈ b := h x (List.mem_cons_self ..)
    have nd' := List.nodup_cons.mp nd
    have ih := nodup_len a (b.erase x) nd'.2 (fun y hy => by
      have hne : y ≠ x := fun e => nd'.1 (e ▸ hy)
      exact (List.mem_erase_of_ne hne).mpr (h y (List.mem_cons_of_mem _ hy)))
    have e := List.length_erase_of_mem hx
    have p : 0 < b.length := List.length_pos_of_mem hx
    rw [List.length_cons]
    omega
/-- a is nodup, a lies in b, as long: b lies in a -/
theorem nodup_full {α : Type} [DecidableEq α] {a b : List α} (nd : a.Nodup) (h : ∀ x ∈ a, x ∈ b) (hl : b.length ≤ a.length) : ∀ x ∈ b, x ∈ a := fun x hx => by
  refine Decidable.byContradiction fun hn => ?_
  have q := nodup_len (x :: a) b (List.nodup_cons.mpr ⟨hn, nd⟩) fun y hy => by
    rcases List.mem_cons.mp hy with e | e
    · exact e ▸ hx
    · exact h y e
  rw [List.length_cons] at q
  omega

/-! ### hanging together -/
/-- S is closed under touching within l -/
def Clo (nb : Nat → List Nat) (l : List Nat) (S : Nat → Prop) : Prop := ∀ x, S x → x ∈ l → ∀ y ∈ nb x, y ∈ l → S y
def Conn (nb : Nat → List Nat) (l : List Nat) : Prop := l ≠ [] ∧ ∀ S : Nat → Prop, (∀ h, l.head? = some h → S h) → Clo nb l S → ∀ x ∈ l, S x
/-- from any cell -/
def ConnA (nb : Nat → List Nat) (l : List Nat) : Prop := l ≠ [] ∧ ∀ S : Nat → Prop, ∀ h ∈ l, S h → Clo nb l S → ∀ x ∈ l, S x
def SymOn (nb : Nat → List Nat) (l : List Nat) : Prop := ∀ x ∈ l, ∀ y ∈ l, y ∈ nb x → x ∈ nb y
theorem head_mem {l : List Nat} {h : Nat} (e : l.head? = some h) : h ∈ l := by
  cases l with
  | nil => cases e
  | cons a l => cases e; exact List.mem_cons_self ..
theorem conn_any {nb : Nat → List Nat} {l : List Nat} (sy : SymOn nb l) : Conn nb l ↔ ConnA nb l := by
  constructor
  · rintro ⟨ne, c⟩
    refine ⟨ne, fun S h hh hS hc x hx => ?_⟩
    obtain ⟨r, hr⟩ : ∃ r, l.head? = some r := by
      cases l with
      | nil => exact absurd rfl ne
      | cons a l => exact ⟨a, rfl⟩
    have hSr : S r := by
      refine Classical.byContradiction fun hn => ?_
      have key := c (fun y => ¬ S y) (fun h' e => by rw [hr] at e; cases e; exact hn) (fun a ha hal b hb hbl hSb => ha (hc b hSb hbl a (sy a hal b hbl hb) hal)) h hh
      exact key hS
    exact c S (fun h' e => by rw [hr] at e; cases e; exact hSr) hc x hx
  · rintro ⟨ne, c⟩
    refine ⟨ne, fun S hS hc x hx => ?_⟩
    obtain ⟨r, hr⟩ : ∃ r, l.head? = some r := by
      cases l with
      | nil => exact absurd rfl ne
      | cons a l => exact ⟨a, rfl⟩
    exact c S r (head_mem hr) (hS r hr) hc x hx
theorem connA_mem {nb : Nat → List Nat} {l l' : List Nat} (h : ∀ x, x ∈ l ↔ x ∈ l') (c : ConnA nb l) : ConnA nb l' := by
  obtain ⟨ne, c⟩ := c
  refine ⟨?_, fun S a ha hS hc x hx => ?_⟩
  · cases l with
    | nil => exact absurd rfl ne
    | cons a l =>
      intro e
      have := (h a).mp (List.mem_cons_self ..)
      rw [e] at this
      cases this
  · exact c S a ((h a).mpr ha) hS (fun u hu hul v hv hvl => hc u hu ((h u).mp hul) v hv ((h v).mp hvl)) x ((h x).mpr hx)
/-- one more cell that touches one of them -/
theorem connA_add {nb : Nat → List Nat} {l l' : List Nat} {c o : Nat} (h : ∀ x, x ∈ l' ↔ x ∈ l ∨ x = c) (ho : o ∈ l) (h1 : o ∈ nb c) (h2 : c ∈ nb o) (k : ConnA nb l) : ConnA nb l' := by
  obtain ⟨ne, k⟩ := k
  have hc' : c ∈ l' := (h c).mpr (.inr rfl)
  have ho' : o ∈ l' := (h o).mpr (.inl ho)
  refine ⟨fun e => (by rw [e] at hc'; cases hc'), fun S a ha hS hcl x hx => ?_⟩
  have clo : Clo nb l S := fun u hu hul v hv hvl => hcl u hu ((h u).mpr (.inl hul)) v hv ((h v).mpr (.inl hvl))
  have hSo : S o := by
    rcases (h a).mp ha with q | q
    · exact k S a q hS clo o ho
    · subst q
      exact hcl a hS ha o h1 ho'
  rcases (h x).mp hx with q | q
  · exact k S o ho hSo clo x q
  · subst q
    exact hcl o hSo ho' x h2 hx

/-! ### the search, round by round -/
structure BInv (nb : Nat → List Nat) (l found rows : List Nat) : Prop where
  nd : found.Nodup
  sub : ∀ x ∈ found, x ∈ l
  hd : ∀ h, l.head? = some h → h ∈ found
  row : ∀ x ∈ rows, x ∈ found
  reach : ∀ S : Nat → Prop, (∀ h, l.head? = some h → S h) → Clo nb l S → ∀ x ∈ found, S x
  done : ∀ x ∈ found, x ∉ rows → ∀ y ∈ nb x, y ∈ l → y ∈ found
theorem BInv.start {nb : Nat → List Nat} {l : List Nat} {h : Nat} (e : l.head? = some h) : BInv nb l [h] [h] := by
  refine ⟨by simp, fun x hx => ?_, fun h' e' => ?_, fun x hx => hx, fun S hS _ x hx => ?_, fun x hx hn => absurd hx hn⟩
  · rw [List.mem_singleton.mp hx]
    exact head_mem e
  · rw [e] at e'
    cases e'
    simp
  · rw [List.mem_singleton.mp hx]
    exact hS h e
theorem BInv.end_iff {nb : Nat → List Nat} {l found : List Nat} (ne : l ≠ []) (lnd : l.Nodup) (I : BInv nb l found []) : Conn nb l ↔ found.length = l.length := by
  have le := nodup_len found l I.nd I.sub
  constructor
  · rintro ⟨_, c⟩
    have q := c (fun x => x ∈ found) I.hd (fun x hx _ y hy hyl => I.done x hx (by simp) y hy hyl)
    have le2 := nodup_len l found lnd q
    omega
  · intro e
    refine ⟨ne, fun S hS hc x hx => I.reach S hS hc x (nodup_full I.nd I.sub (by omega) x hx)⟩
theorem BInv.len_le {nb : Nat → List Nat} {l found rows : List Nat} (I : BInv nb l found rows) : found.length ≤ l.length := nodup_len found l I.nd I.sub

/-- the program's round -/
def visit (l : List Nat) (fm : List Nat × List Nat) (o : Nat) : List Nat × List Nat := if o ∈ l ∧ o ∉ fm.1 then (fm.1 ++ [o], fm.2 ++ [o]) else fm
def turn (nb : Nat → List Nat) (l : List Nat) (fm : List Nat × List Nat) (c : Nat) : List Nat × List Nat := (nb c).foldl (visit l) fm
def round (nb : Nat → List Nat) (l found rows : List Nat) : List Nat × List Nat := rows.foldl (turn nb l) (found, [])
/-- within a round: f what was found ahead -/
structure RInv (nb : Nat → List Nat) (l f : List Nat) (fm : List Nat × List Nat) : Prop where
  eq : fm.1 = f ++ fm.2
  nd : fm.1.Nodup
  sub : ∀ x ∈ fm.1, x ∈ l
  reach : ∀ S : Nat → Prop, Clo nb l S → (∀ x ∈ f, S x) → ∀ x ∈ fm.1, S x
theorem visit_more {l : List Nat} {fm : List Nat × List Nat} {o x : Nat} (h : x ∈ fm.1) : x ∈ (visit l fm o).1 := by
  unfold visit
  split
  · exact List.mem_append_left _ h
  · exact h
theorem visit_has {l : List Nat} {fm : List Nat × List Nat} {o : Nat} (h : o ∈ l) : o ∈ (visit l fm o).1 := by
  unfold visit
  split
  · simp
  · rename_i q
    exact Decidable.byContradiction fun hn => q ⟨h, hn⟩
theorem RInv.visit {nb : Nat → List Nat} {l f : List Nat} {fm : List Nat × List Nat} {c o : Nat} (I : RInv nb l f fm) (hc : c ∈ f) (hcl : c ∈ l) (ho : o ∈ nb c) : RInv nb l f (visit l fm o) := by
  unfold SK.visit
  split
  · rename_i q
    obtain ⟨q1, q2⟩ := q
    refine ⟨by show fm.1 ++ [o] = f ++ (fm.2 ++ [o]); rw [I.eq, List.append_assoc], ?_, fun x hx => ?_, fun S hS hf x hx => ?_⟩
    · show (fm.1 ++ [o]).Nodup
      rw [List.nodup_append]
      refine ⟨I.nd, by simp, fun a ha b hb e => q2 ?_⟩
      rw [← List.mem_singleton.mp hb, ← e]
      exact ha
    · rcases List.mem_append.mp hx with z | z
      · exact I.sub x z
      · rw [List.mem_singleton.mp z]; exact q1
    · rcases List.mem_append.mp hx with z | z
      · exact I.reach S hS hf x z
      · rw [List.mem_singleton.mp z]
        exact hS c (hf c hc) hcl o ho q1
  · exact I
theorem RInv.visits {nb : Nat → List Nat} {l f : List Nat} {c : Nat} (hc : c ∈ f) (hcl : c ∈ l) : ∀ (os : List Nat) (fm : List Nat × List Nat), RInv nb l f fm → (∀ o ∈ os, o ∈ nb c) →
    RInv nb l f (os.foldl (SK.visit l) fm) ∧ (∀ x ∈ fm.1, x ∈ (os.foldl (SK.visit l) fm).1) ∧ ∀ o ∈ os, o ∈ l → o ∈ (os.foldl (SK.visit l) fm).1
  | [], fm, I, _ => ⟨I, fun _ h => h, fun o h => by cases h⟩
  | o :: os, fm, I, h => by
    have I' := I.visit hc hcl (h o (List.mem_cons_self ..))
    obtain ⟨a, b, c'⟩ := RInv.visits hc hcl os (SK.visit l fm o) I' fun x hx => h x (List.mem_cons_of_mem _ hx)
    refine ⟨a, fun x hx => b x (visit_more hx), fun x hx hxl => ?_⟩
    rcases List.mem_cons.mp hx with e | e
    · subst e
      exact b x (visit_has hxl)
    · exact c' x e hxl
theorem RInv.turns {nb : Nat → List Nat} {l f : List Nat} (hfl : ∀ x ∈ f, x ∈ l) : ∀ (rows : List Nat) (fm : List Nat × List Nat), RInv nb l f fm → (∀ c ∈ rows, c ∈ f) →
    RInv nb l f (rows.foldl (turn nb l) fm) ∧ (∀ x ∈ fm.1, x ∈ (rows.foldl (turn nb l) fm).1) ∧ ∀ c ∈ rows, ∀ o ∈ nb c, o ∈ l → o ∈ (rows.foldl (turn nb l) fm).1
  | [], fm, I, _ => ⟨I, fun _ h => h, fun o h => by cases h⟩
  | c :: rows, fm, I, h => by
    have hc := h c (List.mem_cons_self ..)
    obtain ⟨I', k, q⟩ := RInv.visits hc (hfl c hc) (nb c) fm I fun _ h => h
    obtain ⟨a, b, c'⟩ := RInv.turns hfl rows (turn nb l fm c) I' fun x hx => h x (List.mem_cons_of_mem _ hx)
    refine ⟨a, fun x hx => b x (k x hx), fun x hx o ho hol => ?_⟩
    rcases List.mem_cons.mp hx with e | e
    · subst e
      exact b o (q o ho hol)
    · exact c' x e o ho hol
theorem BInv.round {nb : Nat → List Nat} {l found rows : List Nat} (I : BInv nb l found rows) : BInv nb l (round nb l found rows).1 (round nb l found rows).2 ∧ (round nb l found rows).1 = found ++ (round nb l found rows).2 := by
  obtain ⟨a, b, c⟩ := RInv.turns (nb := nb) I.sub rows (found, []) ⟨by simp, I.nd, I.sub, fun S _ h x hx => h x hx⟩ I.row
  have e : (SK.round nb l found rows).1 = found ++ (SK.round nb l found rows).2 := a.eq
  refine ⟨⟨a.nd, a.sub, fun h hh => b h (I.hd h hh), fun x hx => ?_, fun S hS hC => a.reach S hC (I.reach S hS hC), fun x hx hn y hy hyl => ?_⟩, e⟩
  · rw [e]
    exact List.mem_append_right _ hx
  · have hx' : x ∈ found := by
      rw [e] at hx
      rcases List.mem_append.mp hx with z | z
      · exact z
      · exact absurd z hn
    by_cases hr : x ∈ rows
    · exact c x hr y hy hyl
    · exact b y (I.done x hx' hr y hy hyl)

/-- the law's round -/
def turn2 (nb : Nat → List Nat) (l seen more : List Nat) (c : Nat) : List Nat := more ++ (nb c).filter fun o => decide (o ∈ l) && (decide (o ∉ seen) && decide (o ∉ more))
def round2 (nb : Nat → List Nat) (l seen rows : List Nat) : List Nat := rows.foldl (turn2 nb l seen) []
theorem RInv.turns2 {nb : Nat → List Nat} {l f : List Nat} (hnd : ∀ c ∈ l, (nb c).Nodup) (hfl : ∀ x ∈ f, x ∈ l) : ∀ (rows more : List Nat), RInv nb l f (f ++ more, more) → (∀ c ∈ rows, c ∈ f) →
    RInv nb l f (f ++ rows.foldl (turn2 nb l f) more, rows.foldl (turn2 nb l f) more) ∧ (∀ x ∈ more, x ∈ rows.foldl (turn2 nb l f) more) ∧ ∀ c ∈ rows, ∀ o ∈ nb c, o ∈ l → o ∈ f ++ rows.foldl (turn2 nb l f) more
  | [], more, I, _ => ⟨I, fun _ h => h, fun o h => by cases h⟩
  | c :: rows, more, I, h => by
    have hc := h c (List.mem_cons_self ..)
    have I' : RInv nb l f (f ++ turn2 nb l f more c, turn2 nb l f more c) := by
      have mem : ∀ o, o ∈ (nb c).filter (fun o => decide (o ∈ l) && (decide (o ∉ f) && decide (o ∉ more))) → o ∈ nb c ∧ o ∈ l ∧ o ∉ f ∧ o ∉ more := fun o ho => by
        have := List.mem_filter.mp ho
        simpa using this
      refine ⟨rfl, ?_, fun x hx => ?_, fun S hS hf x hx => ?_⟩
      · show (f ++ (more ++ _)).Nodup
        rw [← List.append_assoc, List.nodup_append]
        refine ⟨I.nd, (hnd c (hfl c hc)).filter _, fun a ha b hb e => ?_⟩
        obtain ⟨_, _, q1, q2⟩ := mem b hb
        subst e
        rcases List.mem_append.mp ha with z | z
        · exact q1 z
        · exact q2 z
      · have hx : x ∈ f ++ (more ++ _) := hx
        rw [← List.append_assoc] at hx
        rcases List.mem_append.mp hx with z | z
        · exact I.sub x z
        · exact (mem x z).2.1
      · have hx : x ∈ f ++ (more ++ _) := hx
        rw [← List.append_assoc] at hx
        rcases List.mem_append.mp hx with z | z
        · exact I.reach S hS hf x z
        · exact hS c (hf c hc) (hfl c hc) x (mem x z).1 (mem x z).2.1
    obtain ⟨a, b, c'⟩ := RInv.turns2 hnd hfl rows (turn2 nb l f more c) I' fun x hx => h x (List.mem_cons_of_mem _ hx)
    refine ⟨a, fun x hx => b x (List.mem_append_left _ hx), fun x hx o ho hol => ?_⟩
    rcases List.mem_cons.mp hx with e | e
    · subst e
      by_cases h1 : o ∈ f
      · exact List.mem_append_left _ h1
      · refine List.mem_append_right _ (b o ?_)
        by_cases h2 : o ∈ more
        · exact List.mem_append_left _ h2
        · exact List.mem_append_right _ (List.mem_filter.mpr ⟨ho, by simp [hol, h1, h2]⟩)
    · exact c' x e o ho hol
theorem BInv.round2 {nb : Nat → List Nat} {l found rows : List Nat} (hnd : ∀ c ∈ l, (nb c).Nodup) (I : BInv nb l found rows) : BInv nb l (found ++ SK.round2 nb l found rows) (SK.round2 nb l found rows) := by
  obtain ⟨a, b, c⟩ := RInv.turns2 (nb := nb) hnd I.sub rows [] ⟨rfl, by simpa using I.nd, fun x hx => I.sub x (by simpa using hx), fun S _ h x hx => h x (by simpa using hx)⟩ I.row
  refine ⟨a.nd, a.sub, fun h hh => List.mem_append_left _ (I.hd h hh), fun x hx => List.mem_append_right _ hx, fun S hS hC => a.reach S hC (I.reach S hS hC), fun x hx hn y hy hyl => ?_⟩
  have hx' : x ∈ found := by
    rcases List.mem_append.mp hx with z | z
    · exact z
    · exact absurd z hn
  by_cases hr : x ∈ rows
  · exact c x hr y hy hyl
  · exact List.mem_append_left _ (I.done x hx' hr y hy hyl)
/-- a round lowers this -/
def bms (l found rows : List Nat) : Nat := 2 * (l.length - found.length) + (if rows = [] then 0 else 1)
theorem bms_lt {l found rows more : List Nat} (h : rows ≠ []) (hl : (found ++ more).length ≤ l.length) : bms l (found ++ more) more < bms l found rows := by
  unfold bms
  rw [if_neg h]
  rw [List.length_append] at hl ⊢
  by_cases e : more = []
  · rw [if_pos e, e]
    simp
  · rw [if_neg e]
    have : 0 < more.length := List.length_pos_iff.mpr e
    omega
end SK
end

section
/-! Plain mathematics: islands, maps, takings. -/
namespace SK
/-- the cells that touch one -/
def nearN (arms len cell : Nat) : List Nat :=
  if cell = 0 then (List.range arms).map fun a => 1 + a * len
  else (if (cell - 1) % len = 0 then 0 else cell - 1) :: (if (cell - 1) % len + 1 < len then [cell + 1] else [])
structure Isl (arms len : Nat) : Prop where
  a : arms = 3 ∨ arms = 4
  l1 : 1 ≤ len
  l4 : len ≤ 4
/-- the law's list, unsorted -/
def lnear (arms len cell : Nat) : List Nat := (List.range arms).flatMap fun a => (List.range len).flatMap fun s =>
  (if cell = (if s = 0 then 0 else 1 + a * len + s - 1) then [1 + a * len + s] else []) ++ (if cell = 1 + a * len + s then [if s = 0 then 0 else 1 + a * len + s - 1] else [])
def nearOk (a len : Nat) : Bool := (List.range (a * len + 1)).all fun c =>
  decide ((nearN a len c).Nodup) && (decide ((lnear a len c).Nodup) && ((nearN a len c).all (fun d => decide (d < a * len + 1) && (decide (c ∈ nearN a len d) && decide (d ∈ lnear a len c))) && (lnear a len c).all fun d => decide (d ∈ nearN a len c)))
theorem near_all : ∀ a ∈ [3, 4], ∀ len ∈ [1, 2, 3, 4], nearOk a len = true := by decide +kernel
structure NearF (a len c : Nat) : Prop where
  nd : (nearN a len c).Nodup
  lnd : (lnear a len c).Nodup
  lt : ∀ d ∈ nearN a len c, d < a * len + 1
  sym : ∀ d ∈ nearN a len c, c ∈ nearN a len d
  mem : ∀ d, d ∈ lnear a len c ↔ d ∈ nearN a len c
theorem near_f {a len c : Nat} (I : Isl a len) (hc : c < a * len + 1) : NearF a len c := by
  have ha : a ∈ [3, 4] := by rcases I.a with e | e <;> simp [e]
  have hl : len ∈ [1, 2, 3, 4] := by
    have h1 := I.l1
    have h4 := I.l4
    have : len = 1 ∨ len = 2 ∨ len = 3 ∨ len = 4 := by omega
    rcases this with e | e | e | e <;> simp [e]
  have h := near_all a ha len hl
  unfold nearOk at h
  rw [List.all_eq_true] at h
  have h := h c (List.mem_range.mpr hc)
  simp only [Bool.and_eq_true, decide_eq_true_eq, List.all_eq_true] at h
  obtain ⟨h1, h2, h3, h4⟩ := h
  exact ⟨h1, h2, fun d hd => (h3 d hd).1, fun d hd => (h3 d hd).2.1, fun d => ⟨h4 d, fun hd => (h3 d hd).2.2⟩⟩

/-! ### the cells of a land -/
def at0 (cells : List Nat) (c : Nat) : Nat := cells.getD c 0
def heldN (cells : List Nat) (land : Nat) : List Nat := (List.range cells.length).filter fun c => decide (at0 cells c = land)
def restN (cells : List Nat) (land cell : Nat) : List Nat := (heldN cells land).filter fun c => decide (c ≠ cell)
theorem at0_of {cells : List Nat} {c x : Nat} (h : cells[c]? = some x) : at0 cells c = x := by
  unfold at0
  rw [List.getD_eq_getElem?_getD, h]
  rfl
theorem get_at0 {cells : List Nat} {c : Nat} (h : c < cells.length) : cells[c]? = some (at0 cells c) := by
  unfold at0
  rw [List.getD_eq_getElem?_getD, List.getElem?_eq_getElem h]
  rfl
theorem mem_held {cells : List Nat} {land c : Nat} : c ∈ heldN cells land ↔ c < cells.length ∧ at0 cells c = land := by
  unfold heldN
  rw [List.mem_filter, List.mem_range, decide_eq_true_iff]
theorem mem_rest {cells : List Nat} {land cell c : Nat} : c ∈ restN cells land cell ↔ (c < cells.length ∧ at0 cells c = land) ∧ c ≠ cell := by
  unfold restN
  rw [List.mem_filter, mem_held, decide_eq_true_iff]
theorem held_nd (cells : List Nat) (land : Nat) : (heldN cells land).Nodup := List.nodup_range.filter _
theorem rest_nd (cells : List Nat) (land cell : Nat) : (restN cells land cell).Nodup := (held_nd cells land).filter _
/-- a map -/
structure Good (arms len lands : Nat) (cells : List Nat) : Prop where
  isl : Isl arms len
  sz : cells.length = arms * len + 1
  l2 : 2 ≤ lands
  lm : lands ≤ len + 1
  lt : ∀ x ∈ cells, x < lands
  conn : ∀ l, l < lands → Conn (nearN arms len) (heldN cells l)
/-- a taking that can be made -/
def Made (arms len : Nat) (cells : List Nat) (land cell : Nat) : Prop :=
  at0 cells cell ≠ land ∧ (∃ o ∈ nearN arms len cell, at0 cells o = land) ∧ Conn (nearN arms len) (restN cells (at0 cells cell) cell)
/-- the truth value of a statement -/
noncomputable def dec (p : Prop) : Bool := @decide p (Classical.propDecidable p)
theorem dec_iff {p : Prop} : dec p = true ↔ p := @decide_eq_true_iff p (Classical.propDecidable p)
theorem dec_true {p : Prop} (h : p) : dec p = true := dec_iff.mpr h
theorem dec_false {p : Prop} (h : ¬ p) : dec p = false := by
  cases e : dec p with
  | false => rfl
  | true => exact absurd (dec_iff.mp e) h
theorem dec_eq {p : Prop} {b : Bool} (h : b = true ↔ p) : b = dec p := by
  rw [Bool.eq_iff_iff, dec_iff]
  exact h
section
variable {arms len lands : Nat} {cells : List Nat}
theorem Good.at_lt (G : Good arms len lands cells) {c : Nat} (h : c < arms * len + 1) : at0 cells c < lands := by
  have h' : c < cells.length := by rw [G.sz]; exact h
  have e := get_at0 h'
  exact G.lt _ (List.mem_of_getElem? e)
theorem Good.sym (G : Good arms len lands cells) {l : List Nat} (h : ∀ x ∈ l, x < arms * len + 1) : SymOn (nearN arms len) l := fun x hx y _ hyx => (near_f G.isl (h x hx)).sym y hyx
theorem Good.held_lt (G : Good arms len lands cells) {land : Nat} : ∀ x ∈ heldN cells land, x < arms * len + 1 := fun x hx => by
  have := (mem_held.mp hx).1
  rw [G.sz] at this
  exact this
theorem Good.some (G : Good arms len lands cells) {l : Nat} (h : l < lands) : ∃ c, c < arms * len + 1 ∧ at0 cells c = l := by
  obtain ⟨ne, _⟩ := G.conn l h
  cases e : heldN cells l with
  | nil => exact absurd e ne
  | cons c r =>
    have hc : c ∈ heldN cells l := by rw [e]; exact List.mem_cons_self ..
    exact ⟨c, G.held_lt c hc, (mem_held.mp hc).2⟩
theorem at0_set {c land x : Nat} (h : c < cells.length) : at0 (cells.set c land) x = if x = c then land else at0 cells x := by
  unfold at0
  rw [List.getD_eq_getElem?_getD, List.getD_eq_getElem?_getD]
  by_cases e : x = c
  · subst e
    rw [List.getElem?_set_self h, if_pos rfl]
    rfl
  · rw [List.getElem?_set_ne (Ne.symm e), if_neg e]
/-- behind a taking that can be made there is a map again -/
theorem Good.taken (G : Good arms len lands cells) {land cell : Nat} (hl : land < lands) (hc : cell < arms * len + 1) (M : Made arms len cells land cell) : Good arms len lands (cells.set cell land) := by
  obtain ⟨hne, ⟨o, ho, hol⟩, hconn⟩ := M
  have hc' : cell < cells.length := by rw [G.sz]; exact hc
  have nf := near_f G.isl hc
  have holt : o < arms * len + 1 := nf.lt o ho
  refine ⟨G.isl, by rw [List.length_set]; exact G.sz, G.l2, G.lm, fun x hx => ?_, fun k hk => ?_⟩
  · rcases List.mem_or_eq_of_mem_set hx with h | h
    · exact G.lt x h
    · rw [h]; exact hl
  · have mem : ∀ x, x ∈ heldN (cells.set cell land) k ↔ x < cells.length ∧ (if x = cell then land else at0 cells x) = k := fun x => by
      rw [mem_held, List.length_set, at0_set hc']
    have symk : SymOn (nearN arms len) (heldN (cells.set cell land) k) := G.sym fun x hx => by
      have := ((mem x).mp hx).1
      rw [G.sz] at this
      exact this
    refine (conn_any symk).mpr ?_
    by_cases h1 : k = land
    · subst h1
      refine connA_add (l := heldN cells k) (c := cell) (o := o) (fun x => ?_) (mem_held.mpr ⟨by rw [G.sz]; exact holt, hol⟩) ho (nf.sym o ho) ((conn_any (G.sym G.held_lt)).mp (G.conn k hk))
      rw [mem, mem_held]
      by_cases e : x = cell
      · subst e
        rw [if_pos rfl]
        exact ⟨fun _ => .inr rfl, fun _ => ⟨hc', rfl⟩⟩
      · rw [if_neg e]
        exact ⟨fun h => .inl h, fun h => h.elim id fun q => absurd q e⟩
    · by_cases h2 : k = at0 cells cell
      · refine connA_mem (l := restN cells (at0 cells cell) cell) (fun x => ?_) ((conn_any (G.sym fun x hx => ?_)).mp hconn)
        · rw [mem, mem_rest, h2]
          by_cases e : x = cell
          · subst e
            rw [if_pos rfl]
            exact ⟨fun h => absurd rfl h.2, fun h => absurd (h.2.trans h2.symm).symm h1⟩
          · rw [if_neg e]
            exact ⟨fun h => h.1, fun h => ⟨h, e⟩⟩
        · have := (mem_rest.mp hx).1.1
          rw [G.sz] at this
          exact this
      · refine connA_mem (l := heldN cells k) (fun x => ?_) ((conn_any (G.sym G.held_lt)).mp (G.conn k hk))
        rw [mem, mem_held]
        by_cases e : x = cell
        · subst e
          rw [if_pos rfl]
          exact ⟨fun h => absurd h.2.symm h2, fun h => absurd h.2.symm h1⟩
        · rw [if_neg e]
theorem set_eq {c land : Nat} (h : c < cells.length) : cells.set c land = cells.take c ++ land :: cells.drop (c + 1) := by
  rw [List.set_eq_take_append_cons_drop, if_pos h]
end
/-- all takings that can be made, ascending -/
noncomputable def tksOf (arms len n : Nat) (cells : List Nat) (land : Nat) : List (Nat × Nat) := ((List.range n).filter fun c => dec (Made arms len cells land c)).map fun c => (land, c)
noncomputable def tks (arms len lands : Nat) (cells : List Nat) : List (Nat × Nat) := (List.range lands).flatMap fun l => tksOf arms len (arms * len + 1) cells l
theorem mem_tks {arms len lands : Nat} {cells : List Nat} {t : Nat × Nat} : t ∈ tks arms len lands cells ↔ t.1 < lands ∧ t.2 < arms * len + 1 ∧ Made arms len cells t.1 t.2 := by
  obtain ⟨l, c⟩ := t
  unfold tks tksOf
  rw [List.mem_flatMap]
  constructor
  · rintro ⟨l', hl', h⟩
    obtain ⟨c', hc', e⟩ := List.mem_map.mp h
    obtain ⟨h1, h2⟩ := List.mem_filter.mp hc'
    cases e
    exact ⟨List.mem_range.mp hl', List.mem_range.mp h1, dec_iff.mp h2⟩
  · rintro ⟨h1, h2, h3⟩
    exact ⟨l, List.mem_range.mpr h1, List.mem_map.mpr ⟨c, List.mem_filter.mpr ⟨List.mem_range.mpr h2, dec_true h3⟩, rfl⟩⟩
end SK
end

section
/-! Plain mathematics: rows of takings. -/
namespace SK
def mv (cells : List Nat) (t : Nat × Nat) : List Nat := cells.set t.2 t.1
def fint (cells : List Nat) (ts : List (Nat × Nat)) : List Nat := ts.foldl mv cells
def pth (cells : List Nat) : List (Nat × Nat) → List (List Nat)
  | [] => [cells]
  | t :: ts => cells :: pth (mv cells t) ts
theorem fint_snoc (cells : List Nat) (ts : List (Nat × Nat)) (t : Nat × Nat) : fint cells (ts ++ [t]) = mv (fint cells ts) t := by
  unfold fint
  rw [List.foldl_append]
  rfl
theorem pth_snoc : ∀ (ts : List (Nat × Nat)) (cells : List Nat) (t : Nat × Nat), pth cells (ts ++ [t]) = pth cells ts ++ [fint cells (ts ++ [t])]
  | [], cells, t => rfl
  | u :: ts, cells, t => by
    have ih := pth_snoc ts (mv cells u) t
    show cells :: pth (mv cells u) (ts ++ [t]) = cells :: (pth (mv cells u) ts ++ [fint cells (u :: (ts ++ [t]))])
    rw [ih]
    rfl
theorem pth_len : ∀ (ts : List (Nat × Nat)) (cells : List Nat), (pth cells ts).length = ts.length + 1
  | [], _ => rfl
  | t :: ts, cells => by
    show (cells :: pth (mv cells t) ts).length = ts.length + 1 + 1
    rw [List.length_cons, pth_len ts]
theorem pth_at : ∀ (ts : List (Nat × Nat)) (cells : List Nat), (pth cells ts)[ts.length]? = some (fint cells ts)
  | [], _ => rfl
  | t :: ts, cells => by
    show (cells :: pth (mv cells t) ts)[ts.length + 1]? = _
    rw [List.getElem?_cons_succ]
    exact pth_at ts (mv cells t)
def MadeAll (arms len : Nat) (cells : List Nat) (ts : List (Nat × Nat)) : Prop := ∀ i t, ts[i]? = some t → Made arms len (fint cells (ts.take i)) t.1 t.2
def InAll (lands n : Nat) (ts : List (Nat × Nat)) : Prop := ∀ t ∈ ts, t.1 < lands ∧ t.2 < n
section
variable {arms len lands : Nat} {cells : List Nat} {ts : List (Nat × Nat)}
theorem take_snoc {i : Nat} {t : Nat × Nat} (h : ts[i]? = some t) : ts.take (i + 1) = ts.take i ++ [t] := by
  rw [List.take_add_one, h]
  rfl
theorem good_take (G : Good arms len lands cells) (hin : InAll lands (arms * len + 1) ts) : ∀ i, (∀ j t, j < i → ts[j]? = some t → Made arms len (fint cells (ts.take j)) t.1 t.2) → Good arms len lands (fint cells (ts.take i)) := by
  intro i
  induction i with
  | zero => intro _; rw [List.take_zero]; exact G
  | succ i ih =>
    intro hm
    have ih := ih fun j t hj => hm j t (by omega)
    cases h : ts[i]? with
    | none =>
      have e : ts.take (i + 1) = ts.take i := by rw [List.take_add_one, h]; simp
      rw [e]
      exact ih
    | some t =>
      rw [take_snoc h, fint_snoc]
      obtain ⟨h1, h2⟩ := hin t (List.mem_of_getElem? h)
      exact ih.taken h1 h2 (hm i t (Nat.lt_succ_self i) h)
theorem MadeAll.good (G : Good arms len lands cells) (hin : InAll lands (arms * len + 1) ts) (h : MadeAll arms len cells ts) : Good arms len lands (fint cells ts) := by
  have q := good_take G hin ts.length fun j t _ e => h j t e
  rw [List.take_length] at q
  exact q
theorem MadeAll.take {m : Nat} (h : MadeAll arms len cells ts) : MadeAll arms len cells (ts.take m) := fun i t hi => by
  have hlt : i < (ts.take m).length := (List.getElem?_eq_some_iff.mp hi).1
  rw [List.length_take] at hlt
  rw [List.getElem?_take_of_lt (by omega)] at hi
  have q := h i t hi
  have e : (ts.take m).take i = ts.take i := by rw [List.take_take, Nat.min_eq_left (by omega)]
  rw [e]
  exact q
theorem MadeAll.nil : MadeAll arms len cells [] := fun i t h => by simp at h
theorem MadeAll.snoc {t : Nat × Nat} (h : MadeAll arms len cells ts) (ht : Made arms len (fint cells ts) t.1 t.2) : MadeAll arms len cells (ts ++ [t]) := fun i u hi => by
  rcases Nat.lt_or_ge i ts.length with z | z
  · rw [List.getElem?_append_left z] at hi
    rw [List.take_append_of_le_length (by omega)]
    exact h i u hi
  · have hlt := (List.getElem?_eq_some_iff.mp hi).1
    rw [List.length_append] at hlt
    have e : i = ts.length := by simp at hlt; omega
    subst e
    rw [List.getElem?_append_right (Nat.le_refl _), Nat.sub_self] at hi
    have e2 : t = u := by simpa using hi
    subst e2
    rw [List.take_append_of_le_length (Nat.le_refl _), List.take_length]
    exact ht
theorem InAll.take {n m : Nat} (h : InAll lands n ts) : InAll lands n (ts.take m) := fun t ht => h t (List.mem_of_mem_take ht)
/-- how many of a row can be made when they come -/
theorem made_upto (arms len : Nat) (cells : List Nat) : ∀ (ts : List (Nat × Nat)), ∃ m, m ≤ ts.length ∧ MadeAll arms len cells (ts.take m) ∧ ∀ t, ts[m]? = some t → ¬ Made arms len (fint cells (ts.take m)) t.1 t.2 := by
  intro ts
  have key : ∀ k, k ≤ ts.length → MadeAll arms len cells (ts.take k) ∨ ∃ m, m < k ∧ MadeAll arms len cells (ts.take m) ∧ ∀ t, ts[m]? = some t → ¬ Made arms len (fint cells (ts.take m)) t.1 t.2 := by
    intro k
    induction k with
    | zero => intro _; left; rw [List.take_zero]; exact MadeAll.nil
    | succ k ih =>
      intro hk
      rcases ih (by omega) with h | ⟨m, hm, h⟩
      · have e : ts[k]? = some ts[k] := List.getElem?_eq_getElem (by omega)
        cases Classical.em (Made arms len (fint cells (ts.take k)) ts[k].1 ts[k].2) with
        | inl hM => left; rw [take_snoc e]; exact h.snoc hM
        | inr hM => right; exact ⟨k, Nat.lt_succ_self k, h, fun t ht => by rw [e] at ht; cases ht; exact hM⟩
      · right
        exact ⟨m, by omega, h⟩
  rcases key ts.length (Nat.le_refl _) with h | ⟨m, hm, h⟩
  · exact ⟨ts.length, Nat.le_refl _, h, fun t ht => by simp at ht⟩
  · exact ⟨m, by omega, h⟩
end
end SK
end

section
/-! Plain mathematics: the drawn map. -/
namespace SK
def inn (len x : Nat) : Nat := if (x - 1) % len = 0 then 0 else x - 1
theorem at0_app {cells m : List Nat} {x : Nat} (h : x < cells.length) : at0 (cells ++ m) x = at0 cells x := by
  unfold at0
  rw [List.getD_eq_getElem?_getD, List.getD_eq_getElem?_getD, List.getElem?_append_left h]
theorem at0_new {cells : List Nat} {l : Nat} : at0 (cells ++ [l]) cells.length = l := by
  unfold at0
  rw [List.getD_eq_getElem?_getD, List.getElem?_append_right (Nat.le_refl _), Nat.sub_self]
  rfl
structure MInv (len : Nat) (order cn cells : List Nat) (n used : Nat) : Prop where
  sz : cells.length = n + 1
  us : used = 1 + ((List.range n).filter fun m => decide (m ∈ cn)).length
  Z : order[0]? = some (at0 cells 0)
  A : ∀ k o, k < used → order[k]? = some o → ∃ rt, rt < n + 1 ∧ at0 cells rt = o ∧ ∀ x, x < n + 1 → at0 cells x = o → x = rt ∨ (1 ≤ x ∧ at0 cells (inn len x) = o ∧ inn len x < x)
  B : ∀ x, x < n + 1 → ∃ k, k < used ∧ order[k]? = some (at0 cells x)
theorem MInv.start {len o : Nat} {order cn : List Nat} (h : order[0]? = some o) : MInv len order cn [o] 0 1 := by
  refine ⟨rfl, rfl, h, fun k o' hk ho => ?_, fun x hx => ⟨0, by omega, ?_⟩⟩
  · have e : k = 0 := by omega
    subst e
    rw [h] at ho
    cases ho
    exact ⟨0, by omega, rfl, fun x hx _ => .inl (by omega)⟩
  · have e : x = 0 := by omega
    subst e
    exact h
theorem inn_lt {len x : Nat} (h : 1 ≤ x) : inn len x < x := by
  unfold inn
  split <;> omega
theorem nd_get {l : List Nat} (nd : l.Nodup) {i j x : Nat} (h1 : l[i]? = some x) (h2 : l[j]? = some x) : i = j := by
  obtain ⟨a, ea⟩ := List.getElem?_eq_some_iff.mp h1
  obtain ⟨b, eb⟩ := List.getElem?_eq_some_iff.mp h2
  have P := List.pairwise_iff_getElem.mp (List.nodup_iff_pairwise_ne.mp nd)
  rcases Nat.lt_trichotomy i j with h | h | h
  · exact absurd (ea.trans eb.symm) (P i j a b h)
  · exact h
  · exact absurd (eb.trans ea.symm) (P j i b a h)
theorem filt_step {n : Nat} {p : Nat → Bool} : ((List.range (n + 1)).filter p).length = ((List.range n).filter p).length + (if p n = true then 1 else 0) := by
  rw [List.range_succ, List.filter_append, List.length_append]
  by_cases h : p n = true
  · rw [List.filter_cons_of_pos h, if_pos h]
    rfl
  · rw [List.filter_cons_of_neg h, if_neg h]
    rfl
/-- no cut here: the land of the inner cell -/
theorem MInv.keep {len n used land : Nat} {order cn cells : List Nat} (M : MInv len order cn cells n used) (nd : order.Nodup) (hl : land = at0 cells (inn len (n + 1))) (hn : n ∉ cn) : MInv len order cn (cells ++ [land]) (n + 1) used := by
  have hin : inn len (n + 1) < n + 1 := inn_lt (by omega)
  have old : ∀ x, x < n + 1 → at0 (cells ++ [land]) x = at0 cells x := fun x hx => at0_app (by rw [M.sz]; exact hx)
  have new : at0 (cells ++ [land]) (n + 1) = land := by
    have := at0_new (cells := cells) (l := land)
    rw [M.sz] at this
    exact this
  refine ⟨by rw [List.length_append, M.sz]; rfl, by rw [filt_step, if_neg (by simp [hn]), M.us]; rfl, by rw [old 0 (by omega)]; exact M.Z, fun k o hk ho => ?_, fun x hx => ?_⟩
  · obtain ⟨rt, h1, h2, h3⟩ := M.A k o hk ho
    refine ⟨rt, by omega, by rw [old rt h1]; exact h2, fun x hx hxo => ?_⟩
    rcases Nat.lt_or_ge x (n + 1) with z | z
    · rw [old x z] at hxo
      rcases h3 x z hxo with e | ⟨e1, e2, e3⟩
      · exact .inl e
      · exact .inr ⟨e1, by rw [old _ (by omega)]; exact e2, e3⟩
    · have e : x = n + 1 := by omega
      subst e
      rw [new] at hxo
      exact .inr ⟨by omega, by rw [old _ hin, ← hl]; exact hxo, hin⟩
  · rcases Nat.lt_or_ge x (n + 1) with z | z
    · rw [old x z]
      exact M.B x z
    · have e : x = n + 1 := by omega
      subst e
      rw [new, hl]
      exact M.B _ hin
/-- a cut: the next land -/
theorem MInv.cut {len n used land : Nat} {order cn cells : List Nat} (M : MInv len order cn cells n used) (nd : order.Nodup) (hl : order[used]? = some land) (hn : n ∈ cn) : MInv len order cn (cells ++ [land]) (n + 1) (used + 1) := by
  have old : ∀ x, x < n + 1 → at0 (cells ++ [land]) x = at0 cells x := fun x hx => at0_app (by rw [M.sz]; exact hx)
  have new : at0 (cells ++ [land]) (n + 1) = land := by
    have := at0_new (cells := cells) (l := land)
    rw [M.sz] at this
    exact this
  refine ⟨by rw [List.length_append, M.sz]; rfl, by rw [filt_step, if_pos (decide_eq_true hn), M.us]; omega, by rw [old 0 (by omega)]; exact M.Z, fun k o hk ho => ?_, fun x hx => ?_⟩
  · rcases Nat.lt_or_ge k used with z | z
    · obtain ⟨rt, h1, h2, h3⟩ := M.A k o z ho
      refine ⟨rt, by omega, by rw [old rt h1]; exact h2, fun x hx hxo => ?_⟩
      rcases Nat.lt_or_ge x (n + 1) with y | y
      · rw [old x y] at hxo
        rcases h3 x y hxo with e | ⟨e1, e2, e3⟩
        · exact .inl e
        · exact .inr ⟨e1, by rw [old _ (by omega)]; exact e2, e3⟩
      · have e : x = n + 1 := by omega
        subst e
        rw [new] at hxo
        rw [← hxo] at ho
        have := nd_get nd ho hl
        omega
    · have e : k = used := by omega
      subst e
      rw [hl] at ho
      cases ho
      refine ⟨n + 1, by omega, new, fun x hx hxo => .inl ?_⟩
      rcases Nat.lt_or_ge x (n + 1) with y | y
      · rw [old x y] at hxo
        obtain ⟨k', hk', e'⟩ := M.B x y
        rw [hxo] at e'
        have := nd_get nd e' hl
        omega
      · omega
  · rcases Nat.lt_or_ge x (n + 1) with z | z
    · rw [old x z]
      obtain ⟨k, h1, h2⟩ := M.B x z
      exact ⟨k, by omega, h2⟩
    · have e : x = n + 1 := by omega
      subst e
      rw [new]
      exact ⟨used, by omega, hl⟩
theorem cut_count {cn : List Nat} {N : Nat} (nd : cn.Nodup) (h : ∀ m ∈ cn, m < N) : ((List.range N).filter fun m => decide (m ∈ cn)).length = cn.length := by
  have h1 := nodup_len ((List.range N).filter fun m => decide (m ∈ cn)) cn (List.nodup_range.filter _) fun x hx => of_decide_eq_true (List.mem_filter.mp hx).2
  have h2 := nodup_len cn ((List.range N).filter fun m => decide (m ∈ cn)) nd fun x hx => List.mem_filter.mpr ⟨List.mem_range.mpr (h x hx), decide_eq_true hx⟩
  omega
theorem cut_upto {cn : List Nat} {N n : Nat} (nd : cn.Nodup) (h : ∀ m ∈ cn, m < N) (hn : n ∈ cn) : ((List.range n).filter fun m => decide (m ∈ cn)).length + 1 ≤ cn.length := by
  have h2 := nodup_len (((List.range n).filter fun m => decide (m ∈ cn)) ++ [n]) cn ?_ fun x hx => ?_
  · rw [List.length_append] at h2
    exact h2
  · rw [List.nodup_append]
    refine ⟨List.nodup_range.filter _, by simp, fun a ha b hb e => ?_⟩
    rw [List.mem_singleton.mp hb] at e
    have := List.mem_range.mp (List.mem_filter.mp ha).1
    omega
  · rcases List.mem_append.mp hx with z | z
    · exact of_decide_eq_true (List.mem_filter.mp z).2
    · rw [List.mem_singleton.mp z]; exact hn
theorem held_head {cells : List Nat} {l h x : Nat} (hh : (heldN cells l).head? = some h) (hx : x ∈ heldN cells l) : h ≤ x := by
  have p : (heldN cells l).Pairwise (· < ·) := List.Pairwise.filter _ List.pairwise_lt_range
  cases e : heldN cells l with
  | nil => rw [e] at hx; cases hx
  | cons a t =>
    rw [e] at hh p hx
    cases hh
    rcases List.mem_cons.mp hx with z | z
    · omega
    · have := (List.pairwise_cons.mp p).1 x z
      omega
/-- the drawn map is one -/
theorem MInv.good {arms len lands used : Nat} {order cn cells : List Nat} (I : Isl arms len) (h2 : 2 ≤ lands) (hlm : lands ≤ len + 1) (nd : order.Nodup) (ol : order.length = lands) (olt : ∀ x ∈ order, x < lands) (cnd : cn.Nodup) (clt : ∀ m ∈ cn, m < arms * len) (cl : cn.length = lands - 1)
    (M : MInv len order cn cells (arms * len) used) : Good arms len lands cells := by
  have hu : used = lands := by
    have := M.us
    rw [cut_count cnd clt, cl] at this
    omega
  have sz := M.sz
  refine ⟨I, sz, h2, hlm, fun x hx => ?_, fun l hl => ?_⟩
  · obtain ⟨i, hi, e⟩ := List.getElem_of_mem hx
    have e2 : cells[i]? = some x := by rw [List.getElem?_eq_getElem hi, e]
    obtain ⟨k, _, hk⟩ := M.B i (by omega)
    rw [at0_of e2] at hk
    exact olt x (List.mem_of_getElem? hk)
  · have hlo : l ∈ order := nodup_full (b := List.range lands) nd (fun x hx => List.mem_range.mpr (olt x hx)) (by rw [List.length_range, ol]; exact Nat.le_refl _) l (List.mem_range.mpr hl)
    obtain ⟨k, hk, e⟩ := List.getElem_of_mem hlo
    have e2 : order[k]? = some l := by rw [List.getElem?_eq_getElem hk, e]
    obtain ⟨rt, h1, h2, h3⟩ := M.A k l (by omega) e2
    have hrt : rt ∈ heldN cells l := mem_held.mpr ⟨by omega, h2⟩
    have ne : heldN cells l ≠ [] := fun z => by rw [z] at hrt; cases hrt
    refine ⟨ne, fun S hS hC => ?_⟩
    obtain ⟨h, hh⟩ : ∃ h, (heldN cells l).head? = some h := by
      cases e : heldN cells l with
      | nil => exact absurd e ne
      | cons a t => exact ⟨a, rfl⟩
    have hhm := head_mem hh
    have hroot : h = rt := by
      obtain ⟨a, b⟩ := mem_held.mp hhm
      rcases h3 h (by omega) b with q | ⟨q1, q2, q3⟩
      · exact q
      · have := held_head hh (mem_held.mpr ⟨by omega, q2⟩ : inn len h ∈ heldN cells l)
        omega
    have key : ∀ m x, x ≤ m → x ∈ heldN cells l → S x := by
      intro m
      induction m with
      | zero =>
        intro x hx hxm
        have := held_head hh hxm
        have e : x = h := by omega
        subst e
        exact hS x hh
      | succ m ih =>
        intro x hx hxm
        obtain ⟨a, b⟩ := mem_held.mp hxm
        rcases h3 x (by omega) b with q | ⟨q1, q2, q3⟩
        · rw [q, ← hroot]
          exact hS h hh
        · have hin : inn len x ∈ heldN cells l := mem_held.mpr ⟨by omega, q2⟩
          have hS' := ih _ (by omega) hin
          have hxlt : x < arms * len + 1 := by omega
          have hnb : inn len x ∈ nearN arms len x := by
            unfold nearN inn
            rw [if_neg (by omega)]
            exact List.mem_cons_self ..
          exact hC _ hS' hin x ((near_f I hxlt).sym _ hnb) hxm
    exact fun x hx => key x x (Nat.le_refl _) hx
/-! ### the places of an arm's cells -/
def pid (len : Nat) (t : Nat × Nat) : Nat := t.1 * len + t.2
theorem pid_inj {len : Nat} {t u : Nat × Nat} (h1 : t.2 < len) (h2 : u.2 < len) (e : pid len t = pid len u) : t = u := by
  obtain ⟨a, b⟩ := t
  obtain ⟨c, d⟩ := u
  have hl : 0 < len := by have : b < len := h1; omega
  have e : a * len + b = c * len + d := e
  have q1 : (a * len + b) / len = (c * len + d) / len := by rw [e]
  have q2 : (a * len + b) % len = (c * len + d) % len := by rw [e]
  have h1 : b < len := h1
  have h2 : d < len := h2
  rw [Nat.add_comm, Nat.add_mul_div_right _ _ hl, Nat.div_eq_of_lt h1, Nat.add_comm (c * len), Nat.add_mul_div_right _ _ hl, Nat.div_eq_of_lt h2] at q1
  rw [Nat.add_comm, Nat.add_mul_mod_self_right, Nat.mod_eq_of_lt h1, Nat.add_comm (c * len), Nat.add_mul_mod_self_right, Nat.mod_eq_of_lt h2] at q2
  have : a = c := by omega
  rw [this, q2]
theorem pid_mod {len i j : Nat} (h : j < len) : (i * len + j) % len = j := by
  rw [Nat.add_comm, Nat.add_mul_mod_self_right, Nat.mod_eq_of_lt h]
def prs (len n : Nat) : List (Nat × Nat) := (List.range n).flatMap fun a => (List.range len).map fun s => (a, s)
theorem mem_prs {len n : Nat} {t : Nat × Nat} : t ∈ prs len n ↔ t.1 < n ∧ t.2 < len := by
  obtain ⟨a, b⟩ := t
  unfold prs
  rw [List.mem_flatMap]
  constructor
  · rintro ⟨a', h1, h2⟩
    obtain ⟨b', h3, e⟩ := List.mem_map.mp h2
    cases e
    exact ⟨List.mem_range.mp h1, List.mem_range.mp h3⟩
  · rintro ⟨h1, h2⟩
    exact ⟨a, List.mem_range.mpr h1, List.mem_map.mpr ⟨b, List.mem_range.mpr h2, rfl⟩⟩
theorem prs_succ {len n : Nat} : prs len (n + 1) = prs len n ++ (List.range len).map fun s => (n, s) := by
  unfold prs
  rw [List.range_succ, List.flatMap_append, List.flatMap_singleton]
theorem prs_len {len : Nat} : ∀ n, (prs len n).length = n * len
  | 0 => by simp [prs]
  | n + 1 => by rw [prs_succ, List.length_append, prs_len n, List.length_map, List.length_range, Nat.succ_mul]
theorem prs_nd {len : Nat} : ∀ n, (prs len n).Nodup
  | 0 => by simp [prs]
  | n + 1 => by
    rw [prs_succ, List.nodup_append]
    refine ⟨prs_nd n, ?_, fun a ha b hb e => ?_⟩
    · rw [List.nodup_iff_pairwise_ne, List.pairwise_map]
      exact (List.nodup_iff_pairwise_ne.mp List.nodup_range).imp fun h e => h (by cases e; rfl)
    · have h1 := (mem_prs.mp ha).1
      obtain ⟨s, _, e2⟩ := List.mem_map.mp hb
      rw [e, ← e2] at h1
      exact Nat.lt_irrefl _ h1
/-! ### draws without putting back -/
structure Bag {α : Type} (all left out : List α) : Prop where
  lnd : left.Nodup
  ond : out.Nodup
  dis : ∀ x ∈ left, x ∉ out
  lsub : ∀ x ∈ left, x ∈ all
  osub : ∀ x ∈ out, x ∈ all
  len : left.length + out.length = all.length
theorem Bag.start {α : Type} {all : List α} (nd : all.Nodup) : Bag all all [] := ⟨nd, by simp, fun x _ h => (by cases h), fun x h => h, fun x h => (by cases h), by simp⟩
theorem Bag.draw {α : Type} [DecidableEq α] {all left out : List α} {x : α} (B : Bag all left out) (hx : x ∈ left) : Bag all (left.filter fun y => !decide (y = x)) (out ++ [x]) := by
  have e : left.filter (fun y => !decide (y = x)) = left.erase x := by
    rw [List.Nodup.erase_eq_filter B.lnd]
    refine List.filter_congr fun y _ => ?_
    by_cases h : y = x <;> simp [h]
  refine ⟨B.lnd.filter _, ?_, fun y hy hyo => ?_, fun y hy => B.lsub y (List.mem_filter.mp hy).1, fun y hy => ?_, ?_⟩
  · rw [List.nodup_append]
    refine ⟨B.ond, by simp, fun a ha b hb e => ?_⟩
    rw [List.mem_singleton.mp hb] at e
    exact B.dis x hx (e ▸ ha)
  · obtain ⟨h1, h2⟩ := List.mem_filter.mp hy
    rcases List.mem_append.mp hyo with z | z
    · exact B.dis y h1 z
    · rw [List.mem_singleton.mp z] at h2
      simp at h2
  · rcases List.mem_append.mp hy with z | z
    · exact B.osub y z
    · rw [List.mem_singleton.mp z]; exact B.lsub x hx
  · rw [e, List.length_erase_of_mem hx, List.length_append, List.length_singleton]
    have := B.len
    have := List.length_pos_of_mem hx
    omega
end SK
end

section
/-! any, all of a generator expression whose element is walked over the layer (calls and all). -/
namespace SKG
open PySem PySem.Spec PyProof.Rows L2 GxR
open Sem (wp)

/-! ### what a sleeping generator's state may become -/
structure Grow (s s' : Shared) : Prop where
  os : s'.os = s.os
  bare : AllBare s'.gens
  keep : ∀ b o, s.heap.get? b = some o → s'.heap.get? b = some o
theorem Grow.trans {s s1 s2 : Shared} (a : Grow s s1) (b : Grow s1 s2) : Grow s s2 := ⟨b.os.trans a.os, b.bare, fun c o e => b.keep c o (a.keep c o e)⟩
theorem bare_set {s : Shared} {g : Nat} {x : GenState} (h : AllBare s.gens) (hx : x.bare = true) : AllBare (s.setGen g x).gens := fun y hy => by
  obtain ⟨i, hi, rfl⟩ := Array.mem_iff_getElem.mp hy
  by_cases e : i = g
  · subst e
    have hi' : i < s.gens.size := by
      rw [GenW.setGen_size] at hi
      exact hi
    have q : (s.setGen i x).gens[i]? = some x := setGen_self (gs := s.gens[i]) (Array.getElem?_eq_getElem hi')
    rw [Array.getElem?_eq_getElem hi] at q
    rw [Option.some.inj q]
    exact hx
  · have h1 := (GenOnly.setGen s g x).2 i e
    rw [Array.getElem?_eq_getElem hi] at h1
    obtain ⟨hi', e'⟩ := Array.getElem?_eq_some_iff.mp h1.symm
    rw [← e']
    exact h _ (Array.getElem_mem hi')

/-- the generator's own end -/
def gEnd (Stop : Shared → Prop) : GenEnd := fun _ _ r s1 => r = .ok .next ∧ Stop s1 ∧ AllBare s1.gens
/-- a truth value is handed out; where it is sv the consumer ends -/
def gOut (a : Addr) (g : Nat) (sv : Bool) (Early : Shared → Prop) : Protocol := fun _ _ v s kap =>
  ∃ b, v = .bool b ∧ s.heap.IsGen a g ∧ s.heap.NoLimit ∧ AllBare s.gens ∧ (b = sv → Early s) ∧ (b ≠ sv → ∀ s', Grow s s' → kap (.send .none) s')
section
variable {prog : Program} {w : World} {A : Around} {a : Addr} {g : Nat} {sv : Bool} {Stop Early : Shared → Prop}
/-- asleep, n items at most are left -/
def Asleep (prog : Program) (w : World) (A : Around) (a : Addr) (g : Nat) (sv : Bool) (Stop Early : Shared → Prop) (n : Nat) (s : Shared) : Prop :=
  s.heap.IsGen a g ∧ s.heap.NoLimit ∧ AllBare s.gens ∧ g < s.gens.size ∧ ∃ gs, s.gens[g]? = some gs ∧ ∀ s', Grow s s' →
    gs.Goes (model prog w) A.in1 (fun n s₀ r s₁ => r = .ok .next ∧ (Stop s₁ ∧ AllBare s₁.gens)) (gOut a g sv Early) n (.send .none) s'
/-- next(generator) -/
theorem next_asleep {n : Nat} {s : Shared} {Q : Option Value → Shared → Prop} {E : Value → Shared → Prop} (hh : A.handled = none) (hroom : A.depth < recursionLimit) (z : Asleep prog w A a g sv Stop Early n s)
    (hout : ∀ b s1, AllBare s1.gens → (b = sv → ∃ s0, Early s0 ∧ Grow s0 s1) → (b ≠ sv → ∃ m, n = m + 1 ∧ Asleep prog w A a g sv Stop Early m s1) → Q (some (.bool b)) s1)
    (hend : ∀ s0 s1, Stop s0 → Grow s0 s1 → Q none s1) : wpAny (model prog w) A (pyNext (.ref a)) Q E s := by
  obtain ⟨hg, hl, hb, hlt, gs, hgs, hgo⟩ := z
  refine GenW.wpAny_gsz (n := s.gens.size) (Nat.le_refl _) ?_
  refine wpAny_pyNext_genexpQ (P := fun _ _ s₁ => Stop s₁ ∧ AllBare s₁.gens) hh hl hroom hg hgs (hgo _ ⟨rfl, bare_set hb rfl, fun _ _ e => e⟩) (fun v s1 gs' hbr hv hsz => ?_) (fun s1 hp h' hk hsz => ?_)
  · obtain ⟨b, rfl, hg1, hl1, hb1, hearly, hkap⟩ := hv
    have hsz1 : g < s1.gens.size := by
      have q : s.gens.size ≤ (s1.setGen g gs').gens.size := hsz
      rw [GenW.setGen_size] at q
      exact Nat.lt_of_lt_of_le hlt q
    have gr : Grow s1 (s1.setGen g gs') := ⟨rfl, bare_set hb1 hbr, fun _ _ e => e⟩
    refine hout b _ (bare_set hb1 hbr) (fun e => ⟨s1, hearly e, gr⟩) fun e => ?_
    have hkap := hkap e
    cases n with
    | zero => exact (hkap s1 ⟨rfl, hb1, fun _ _ q => q⟩).elim
    | succ m =>
      refine ⟨m, rfl, hg1, hl1, bare_set hb1 hbr, ?_, gs', setGen_self (gs := s1.gens[g]) (Array.getElem?_eq_getElem hsz1), fun s' hg' => hkap s' (gr.trans hg')⟩
      rw [GenW.setGen_size]
      exact hsz1
  · exact hend s1 _ hp.1 ⟨rfl, bare_set (s := s1) hp.2 rfl, fun b o e => hk b o e⟩
end

/-! ### the consumers -/
section
variable {prog : Program} {w : World} {A : Around} {a : Addr} {g : Nat} {Stop Early : Shared → Prop} {R : Result → Shared → Prop}
theorem any_asleep (hh : A.handled = none) (hroom : A.depth < recursionLimit) (hE : ∀ s0 s1, Early s0 → Grow s0 s1 → R (.ok (.ret (.bool true))) s1) (hS : ∀ s0 s1, Stop s0 → Grow s0 s1 → R (.ok (.ret (.bool false))) s1) :
    ∀ (n : Nat) (s : Shared), Asleep prog w A.in1 a g true Stop Early n s → codeAny (model prog w) A (.builtin "any.loop" ⟨[.ref a], []⟩) R s := by
  intro n
  induction n using Nat.strongRecOn with
  | ind n ih =>
    intro s z
    refine codeAny_builtin F.entry_any_loop ?_
    rw [Around.under_plainId F.plain_any_loop _]
    show wpAny _ A.in1 (pyNext (.ref a) >>= _) _ _ s
    refine wpAny_bind (next_asleep (A := A.in1) hh hroom z (fun b s1 hb he hk => ?_) fun s0 s1 h1 h2 => ?_)
    · refine wpAny_bind (wpAny_holding (wpAny_truthy_bool ?_))
      refine wpAny_bind (wpAny_letGo ?_)
      cases b with
      | false =>
        obtain ⟨m, hm, z1⟩ := hk (by decide)
        simp only [Bool.false_eq_true, if_false]
        exact wpAny_pure ⟨plainId_quiet F.plain_any_loop _, ih m (by omega) s1 z1⟩
      | true =>
        obtain ⟨s0, h1, h2⟩ := he rfl
        simp only [if_true]
        exact wpAny_bind (wpAny_rule (wpAny_pure (hE s0 s1 h1 h2)))
    · exact wpAny_bind (wpAny_rule (wpAny_pure (hS s0 s1 h1 h2)))
theorem all_asleep (hh : A.handled = none) (hroom : A.depth < recursionLimit) (hE : ∀ s0 s1, Early s0 → Grow s0 s1 → R (.ok (.ret (.bool false))) s1) (hS : ∀ s0 s1, Stop s0 → Grow s0 s1 → R (.ok (.ret (.bool true))) s1) :
    ∀ (n : Nat) (s : Shared), Asleep prog w A.in1 a g false Stop Early n s → codeAny (model prog w) A (.builtin "all.loop" ⟨[.ref a], []⟩) R s := by
  intro n
  induction n using Nat.strongRecOn with
  | ind n ih =>
    intro s z
    refine codeAny_builtin F.entry_all_loop ?_
    rw [Around.under_plainId F.plain_all_loop _]
    show wpAny _ A.in1 (pyNext (.ref a) >>= _) _ _ s
    refine wpAny_bind (next_asleep (A := A.in1) hh hroom z (fun b s1 hb he hk => ?_) fun s0 s1 h1 h2 => ?_)
    · refine wpAny_bind (wpAny_holding (wpAny_truthy_bool ?_))
      refine wpAny_bind (wpAny_letGo ?_)
      cases b with
      | true =>
        obtain ⟨m, hm, z1⟩ := hk (by decide)
        simp only [if_true]
        exact wpAny_pure ⟨plainId_quiet F.plain_all_loop _, ih m (by omega) s1 z1⟩
      | false =>
        obtain ⟨s0, h1, h2⟩ := he rfl
        simp only [Bool.false_eq_true, if_false]
        exact wpAny_bind (wpAny_rule (wpAny_pure (hE s0 s1 h1 h2)))
    · exact wpAny_bind (wpAny_rule (wpAny_pure (hS s0 s1 h1 h2)))
theorem call_any_asleep {n : Nat} {s : Shared} {Q : Value → Shared → Prop} {E : Value → Shared → Prop} (hh : A.handled = none) (hroom : A.depth < recursionLimit) (z : Asleep prog w A.in1 a g true Stop Early n s)
    (hE : ∀ s0 s1, Early s0 → Grow s0 s1 → Q (.bool true) s1) (hS : ∀ s0 s1, Stop s0 → Grow s0 s1 → Q (.bool false) s1) : wpAny (model prog w) A (call (.builtin "any") [.ref a]) Q E s := by
  refine call_function_tree F.kind_any F.plain_any F.entry_any (F.args_any1 _) ?_
  unfold Builtin.«any»
  refine wpAny_bind (m := oneArg "any" _) (wpAny_pure ?_)
  refine wpAny_bind (wpAny_pyIter_gen z.1 ?_)
  exact wpAny_pure ⟨plainId_quiet F.plain_any_loop _, any_asleep hh hroom (fun s0 s1 h1 h2 => hE s0 s1 h1 h2) (fun s0 s1 h1 h2 => hS s0 s1 h1 h2) n s z⟩
theorem call_all_asleep {n : Nat} {s : Shared} {Q : Value → Shared → Prop} {E : Value → Shared → Prop} (hh : A.handled = none) (hroom : A.depth < recursionLimit) (z : Asleep prog w A.in1 a g false Stop Early n s)
    (hE : ∀ s0 s1, Early s0 → Grow s0 s1 → Q (.bool false) s1) (hS : ∀ s0 s1, Stop s0 → Grow s0 s1 → Q (.bool true) s1) : wpAny (model prog w) A (call (.builtin "all") [.ref a]) Q E s := by
  refine call_function_tree F.kind_all F.plain_all F.entry_all (F.args_all1 _) ?_
  unfold Builtin.«all»
  refine wpAny_bind (m := oneArg "all" _) (wpAny_pure ?_)
  refine wpAny_bind (wpAny_pyIter_gen z.1 ?_)
  exact wpAny_pure ⟨plainId_quiet F.plain_all_loop _, all_asleep hh hroom (fun s0 s1 h1 h2 => hE s0 s1 h1 h2) (fun s0 s1 h1 h2 => hS s0 s1 h1 h2) n s z⟩
end
end SKG
end

section
namespace SKG
open PySem PySem.Spec PyProof.Rows L2 GxR
open Sem (wp)

/-! ### the context of a generator expression's block -/
def genCx (X : Cx) (A : Around) (s : Shared) (H : Hp) (cenv : Env) (fp : List Addr) (pn : List (Addr × Obj)) : Cx where
  prog := X.prog
  w := X.w
  K := X.K
  mg := X.mg
  base := X.base
  A := A
  N := X.N
  s_0 := s
  H_0 := H
  env := cenv
  outer := X.stack
  stack := cenv :: X.stack
  ex := fp
  fn := fun _ => false
  calm := true
  pn := pn
  xe := fun _ _ => False
abbrev gEnv (X : Cx) (scope : Scope) (C : Addr) (code : Value) : Env := genEnv scope (cloFrom X.env.cells scope.names []) C code builtinsNs X.env
section
variable {X : Cx} {pins : List (Addr × Obj)} {σ : L2.St} {H : Hp} {s s5 : Shared}
theorem gen_start {A : Around} {scope : Scope} {own : List (Str × Nat)} {fp : List Addr} {pn : List (Addr × Obj)} {code : Value} {m0 : Str → Option Value} (I : Inv X pins σ H s) (ok : BlkOk X.N X.env.scope scope own) (hN : X.N.Nodup)
    (hcell : ∀ y ∈ scope.names, y.2 ≠ .cell) (hfp : ∀ b ∈ fp, FpOk X pins H b ∧ b < s.heap.objs.size) (hd : A.handled = none) (hfr : A.frames = some (gEnv X scope s.heap.objs.size code :: X.stack))
    (hos : s5.os = s.os) (hb : AllBare s5.gens) (kp : ∀ b o, s.heap.get? b = some o → s5.heap.get? b = some o) (hns : s5.heap.Ns s.heap.objs.size m0)
    (hpn : ∀ p ∈ pn, s5.heap.get? p.1 = some p.2 ∧ s.heap.objs.size < p.1 ∧ ∀ v, p.2.data ≠ .cell v) :
    Inv (genCx X A s H (gEnv X scope s.heap.objs.size code) fp pn) [] (wipe σ (own.map (·.2))) H s5 := by
  have hfree : ∀ y ∈ scope.names, y.2 = .free → ∃ c, X.env.cells.lookup y.1 = some c := fun y hy e => by
    rcases ok.free y hy e with k | k
    · exact I.ok.has _ (.inl k)
    · exact I.ok.has _ (.inr k)
  have cm : ∀ {y c}, (cloFrom X.env.cells scope.names []).lookup y = some c → X.env.cells.lookup y = some c := fun {y c} e => by
    rcases cloFrom_mem (PySem.mem_of_lookup e) with hm | ⟨h1, h2⟩
    · cases hm
    · obtain ⟨c1, hc⟩ := hfree _ h1 rfl
      have hc : X.env.cells.lookup y = some c1 := hc
      have e2 : c = c1 := by
        rw [h2, hc] <;> rfl
      rw [e2]
      exact hc
  have look : ∀ {y}, scope.names.lookup y = some .free → ∃ c, (cloFrom X.env.cells scope.names []).lookup y = some c := fun {y} hl => by
    have hy : (y, NameKind.free) ∈ scope.names := PySem.mem_of_lookup hl
    exact mem_lookup (cloFrom_has (cells := X.env.cells) (acc := []) hy)
  have okG : (genCx X A s H (gEnv X scope s.heap.objs.size code) fp pn).Ok := by
    refine ⟨I.ok.mod, ok.kind, I.ok.glob, rfl, Nat.le_refl _, fun y z c e1 e2 => I.ok.inj y z c (cm e1) (cm e2), fun y hy => ?_, fun y c z _ => ?_, fun _ => hd, hfr, .inr ⟨rfl, rfl⟩, fun b hb => ⟨?_, fun y c e z => ?_⟩, I.bs, Nat.le_trans I.ok.bsz I.sz,
      fun b o e hb => ?_, fun b hb z => ?_, I.stack, I.stkFree⟩
    · have hy : scope.names.lookup y = some .cell ∨ scope.names.lookup y = some .free := hy
      rcases hy with hy | hy
      · exact absurd rfl (hcell _ (PySem.mem_of_lookup hy))
      · exact look hy
    · have z : false = true := z
      cases z
    · exact Nat.ne_of_lt (hfp b hb).2
    · exact (hfp b hb).1.2.2.2.2.1 y c (cm e) z
    · rcases (hfp b hb).1.2.2.2.1 with z | z
      · exact I.ok.noex b o e z
      · exact absurd (Nat.lt_of_lt_of_le (Heap.lt_size e) (Nat.le_trans I.ok.bsz z)) (Nat.lt_irrefl _)
    · rcases List.mem_cons.mp (I.stkSub b z) with z | z
      · exact (hfp b hb).1.2.1 z
      · exact (hfp b hb).1.2.2.1 z
  refine ⟨okG, hos, hb, Un.kept kp, ⟨m0, hns, fun i y v e1 e2 e3 => ?_⟩, fun y c e => ?_, I.hok.fresh (Nat.le_refl _), fun y c e => I.freeC y c (cm e), fun p hp => ?_, I.hok.kept kp, by rw [wipe_length]; exact I.len⟩
  · obtain ⟨e2, hne⟩ := wipe_some e2
    have e1 : X.N[i]? = some y := e1
    have no : ∀ k, scope.names.lookup y = some k → ¬ (k = .local ∨ k = .cell) := fun k e hh => by
      rcases ok.own _ (PySem.mem_of_lookup e) hh with e' | e'
      · obtain ⟨p, hp, hpy⟩ := List.mem_map.mp e'
        have e3 := ok.ix p hp
        have : p.1 = y := hpy
        rw [this] at e3
        exact hne (List.mem_map.mpr ⟨p, hp, nodup_ix hN e3 e1⟩)
      · exact e' (List.mem_of_getElem? e1)
    have e3 : Vis scope y := e3
    have hfr : scope.names.lookup y = some .free := by
      rcases e3 with e3 | e3 | e3
      · exact absurd (.inl rfl) (no _ e3)
      · exact absurd (.inr rfl) (no _ e3)
      · exact e3
    obtain ⟨m, hn, hl⟩ := I.loc
    have hvis : Vis X.env.scope y := (ok.free _ (PySem.mem_of_lookup hfr) rfl).elim (fun k => .inr (.inl k)) (fun k => .inr (.inr k))
    obtain ⟨u, r, q⟩ := hl i y v e1 e2 hvis
    obtain ⟨c2, h2⟩ := look hfr
    refine ⟨u, r, .inr ⟨.inr hfr, c2, h2, ?_⟩⟩
    have c1 := cm h2
    rcases q with ⟨k, _⟩ | ⟨_, c3, e', z⟩
    · have k : X.env.scope.names.lookup y = some .local := k
      rcases ok.free _ (PySem.mem_of_lookup hfr) rfl with k' | k' <;> rw [show X.env.scope.names.lookup y = _ from k'] at k <;> cases k
    · rw [c1] at e'
      cases e'
      exact z.keeps kp
  · obtain ⟨u, z⟩ := I.cell y c (cm e)
    exact ⟨u, z.keeps kp⟩
  · have hp : p ∈ pn ++ [] := hp
    rw [List.append_nil] at hp
    obtain ⟨h1, h2, h3⟩ := hpn p hp
    have hle : s.heap.objs.size ≤ p.1 := Nat.le_of_lt h2
    refine ⟨h1, I.hok.fresh hle, Nat.ne_of_gt h2, fun z => ?_, h3⟩
    have z : p.1 ∈ frs X.stack := z
    rcases List.mem_cons.mp (I.stkSub _ z) with e | e
    · have h1 := I.lt
      rw [← e] at h1
      exact Nat.lt_irrefl _ (Nat.lt_of_lt_of_le h1 hle)
    · exact I.nofs hle e
/-- back in the def: what the block has made of the heap -/
theorem gen_back {A : Around} {cenv : Env} {fp : List Addr} {pn : List (Addr × Obj)} {pins' : List (Addr × Obj)} {σ' : L2.St} {H' : Hp} {s' : Shared} (I : Inv X pins σ H s) (hfp : ∀ b ∈ fp, FpOk X pins H b) (J : Inv (genCx X A s H cenv fp pn) pins' σ' H' s') :
    Inv X pins σ H' s' := I.call' (ch := fp) J.os J.base J.hok J.bare fun b hb => ⟨(hfp b hb).2.2.2.1, (hfp b hb).2.1, (hfp b hb).2.2.2.2.1, (hfp b hb).2.2.2.2.2⟩
theorem Inv.grown {Y : Cx} (I : Inv Y pins σ H s) (z : Grow s s5) : Inv Y pins σ H s5 := I.call' (ch := []) z.os (Un.kept z.keep) (I.hok.kept z.keep) z.bare fun b h => by simp at h
end
end SKG
end

section
namespace SKG
open PySem PySem.Spec PyProof.Rows L2 GxR
open Sem (wp)

/-- the reading of any (sv: true), all (sv: false) over a generator expression of the name at ix; P: the def's table -/
def tGen (sv : Bool) (wi : TI) (ix : Nat) (te : TE) (vs : List Nat) (P : Addr) : TE := fun σ H Q => wi σ H fun J H1 => TabG H1 P ∧ ∀ H2, Tabbed P H1 H2 →
  ∃ (n : Nat) (W : Nat → Hp → Prop), W 0 H2 ∧ (∀ H, W n H → J.stop n H ∧ Q (.bl (!sv)) H) ∧ ∀ i H, i < n → W i H → J.go i H ∧ ∀ x H', J.yld i H x H' → te ((wipe σ vs).set ix (some x)) H' fun y H4 =>
    ∃ b, y = .bl b ∧ (b = sv → Q (.bl sv) H4) ∧ (b ≠ sv → W (i + 1) H4)
theorem wipe_at {σ : L2.St} {i : Nat} : ∀ {vs : List Nat}, i ∈ vs → ∀ x : V, (wipe σ vs)[i]? ≠ some (some x) := fun {vs} h x e => (wipe_some e).2 h
section
variable {X : Cx} {pins : List (Addr × Obj)} {σ : L2.St} {H : Hp} {s : Shared}
/-- the block's turns -/
theorem seg_turns {A2 : Around} {H0 : Hp} {s4 : Shared} {cenv : Env} {fp : List Addr} {pn : List (Addr × Obj)} {elt iter : Expr} {x : Str} {px pos : Pos} {scope : Scope} {it a : Addr} {g n ix : Nat} {sv : Bool} {J : It} {tn : Nat → Heap → Prop} {te : TE} {vs : List Nat} {W : Nat → Hp → Prop} {Q : VK}
    (hN : X.N.Nodup) (hix : X.N[ix]? = some x) (hxl : cenv.scope.names.lookup x = some .local) (hco : cenv.scope.isCoroutine = false) (hiv : ix ∈ vs)
    (T : Turn X.prog X.w X.K (.Name x px) J fp it tn)
    (hg : ∀ s : Shared, (∀ p ∈ pn, s.heap.get? p.1 = some p.2) → s.heap.IsGen a g)
    (hst : ∀ H, W n H → J.stop n H ∧ Q (.bl (!sv)) H)
    (hgo : ∀ i H, i < n → W i H → J.go i H ∧ ∀ x H', J.yld i H x H' → te ((wipe σ vs).set ix (some x)) H' fun y H4 => ∃ b, y = .bl b ∧ (b = sv → Q (.bl sv) H4) ∧ (b ≠ sv → W (i + 1) H4))
    (he : PE (genCx X (A2.over (.compLoop (.GeneratorExp elt [⟨.Name x px, iter, [], 0⟩] scope pos) 0 (.ref it) .none cenv) []) s4 H0 cenv fp pn) elt te)
    (hf : ∀ H', (∀ b ∈ fp, H' b = none) → ∀ b ∈ fp, FpOk (genCx X (A2.over (.compLoop (.GeneratorExp elt [⟨.Name x px, iter, [], 0⟩] scope pos) 0 (.ref it) .none cenv) []) s4 H0 cenv fp pn) [] H' b) :
    ∀ (k i : Nat) (s₀ s : Shared) (H : Hp), n - i = k → i ≤ n → Inv (genCx X (A2.over (.compLoop (.GeneratorExp elt [⟨.Name x px, iter, [], 0⟩] scope pos) 0 (.ref it) .none cenv) []) s4 H0 cenv fp pn) [] (wipe σ vs) H s → tn i s.heap → (∀ b ∈ fp, H b = none) → W i H →
      Seg (model X.prog X.w) A2 (fun n s₀ r s₁ => r = .ok .next ∧ ((∃ σ' H', Inv (genCx X (A2.over (.compLoop (.GeneratorExp elt [⟨.Name x px, iter, [], 0⟩] scope pos) 0 (.ref it) .none cenv) []) s4 H0 cenv fp pn) [] σ' H' s₁ ∧ Q (.bl (!sv)) H') ∧ AllBare s₁.gens))
        (gOut a g sv fun s₁ => ∃ σ' H', Inv (genCx X (A2.over (.compLoop (.GeneratorExp elt [⟨.Name x px, iter, [], 0⟩] scope pos) 0 (.ref it) .none cenv) []) s4 H0 cenv fp pn) [] σ' H' s₁ ∧ Q (.bl sv) H') k s₀
        (.compLoop (.GeneratorExp elt [⟨.Name x px, iter, [], 0⟩] scope pos) 0 (.ref it) .none cenv)
        ((model X.prog X.w).den (.compLoop (.GeneratorExp elt [⟨.Name x px, iter, [], 0⟩] scope pos) 0 (.ref it) .none cenv)) [] s := by
  generalize hAg : A2.over (.compLoop (.GeneratorExp elt [⟨.Name x px, iter, [], 0⟩] scope pos) 0 (.ref it) .none cenv) [] = Ag at he hf ⊢
  have hisgen : ∀ {pins' : List (Addr × Obj)} {σ' : L2.St} {H' : Hp} {s' : Shared}, Inv (genCx X Ag s4 H0 cenv fp pn) pins' σ' H' s' → s'.heap.IsGen a g := fun {pins' σ' H' s'} I => hg s' fun p hp => (I.pin p (List.mem_append_left _ hp)).1
  intro k
  induction k with
  | zero =>
    intro i s₀ s H hk hi I hst0 hfr hW
    have hin : i = n := by omega
    subst hin
    obtain ⟨h1, h2⟩ := hst H hW
    show Seg _ A2 _ _ _ s₀ _ ((compTurn (.GeneratorExp elt [⟨.Name x px, iter, [], 0⟩] scope pos) 0 (.ref it) .none cenv).onRaise (leaving cenv)) [] s
    rw [compTurn_gen, Sem.onRaise_eq_wrap]
    refine seg_bind_wrap (wpAny_standAt ?_)
    refine seg_bind_wrap ?_
    rw [hAg]
    refine wpAny_mono (T.done (genCx X Ag s4 H0 cenv fp pn) rfl rfl rfl rfl i [] s (wipe σ vs) H (fun _ _ => False) I (hf H hfr) hst0 h1) (fun r s1 hr => ?_) fun _ _ z => z.elim
    obtain ⟨e, I1⟩ := hr
    subst e
    exact seg_end (.ok .next) ⟨rfl, ⟨_, H, I1, h2⟩, I1.bare⟩
  | succ k ih =>
    intro i s₀ s H hk hi I hst0 hfr hW
    have hlt : i < n := by omega
    obtain ⟨h1, h2⟩ := hgo i H hlt hW
    show Seg _ A2 _ _ _ s₀ _ ((compTurn (.GeneratorExp elt [⟨.Name x px, iter, [], 0⟩] scope pos) 0 (.ref it) .none cenv).onRaise (leaving cenv)) [] s
    rw [compTurn_gen, Sem.onRaise_eq_wrap]
    refine seg_bind_wrap (wpAny_standAt ?_)
    refine seg_bind_wrap ?_
    rw [hAg]
    refine wpAny_mono (T.item (genCx X Ag s4 H0 cenv fp pn) rfl rfl rfl rfl i [] s (wipe σ vs) H (fun _ _ => False) I (hf H hfr) hst0 h1) (fun r s1 hr => ?_) fun _ _ z => z.elim
    obtain ⟨u, e, hgo1⟩ := hr
    subst e
    refine seg_bind_wrap ?_
    rw [hAg]
    refine wpAny_mono hgo1 (fun _ s5 hr => ?_) fun _ _ z => z.elim
    obtain ⟨xv, H5, I5, r5, y5, st5, fr5⟩ := hr
    have I5' := I5.pinned (hf H5 fr5) (T.obj _ _ st5)
    refine seg_bind_wrap ?_
    rw [hAg]
    have pg : PG (genCx X Ag s4 H0 cenv fp pn) (.Name x px) (gName ix) := pg_name hN hix (.inl hxl) (.inr hxl)
    refine wpAny_mono (pg.run _ s5 (wipe σ vs) H5 xv u (fun σ' H' => σ' = (wipe σ vs).set ix (some xv) ∧ H' = H5) I5' r5 ⟨rfl, rfl⟩) (fun _ s6 hr => ?_) fun _ _ z => z.elim
    obtain ⟨σ6, H6, I6, e6, eH⟩ := hr
    subst e6 eH
    refine seg_bind_wrap ?_
    simp only [List.forIn_nil]
    refine wpAny_pure ?_
    simp only [if_true]
    have hy : ∀ v, yieldOut cenv v = yieldValue v := fun v => by simp only [yieldOut, hco, Bool.false_eq_true, if_false]
    simp only [hy]
    rw [Sem.bind_eq_wrap', Sem.bind_eq_wrap', Sem.wrap_wrap, Sem.wrap_wrap]
    refine seg_wrap ?_
    rw [hAg]
    refine wpAny_mono (he.run _ s6 _ H6 _ I6 (h2 xv H6 y5)) (fun y s7 hr => ?_) fun _ _ z => z.elim
    obtain ⟨yv, H7, I7, r7, b, eb, hearly, hmore⟩ := hr
    subst eb
    obtain rfl : y = Value.bool b := r7
    have back : Inv (genCx X Ag s4 H0 cenv fp pn) [] (wipe σ vs) H7 s7 := by
      refine I7.unpinned.weak (by rw [List.length_set]) fun j v hj => ?_
      by_cases hji : ix = j
      · subst hji
        exact absurd hj (wipe_at hiv v)
      · rw [List.getElem?_set_ne hji]
        exact hj
    refine seg_at (seg_yield rfl rfl rfl ⟨b, rfl, hisgen I7, I7.nolimit, I7.bare, fun e => ⟨_, H7, I7.unpinned, hearly e⟩, fun e s'' gr => ?_⟩)
    have st7 : tn (i + 1) s''.heap := T.keep _ _ _ st5 fun b hb o eo => gr.keep b o (I7.pin (b, o) (List.mem_append_right _ (List.mem_append_right _ (mem_pinsAt hb eo)))).1
    refine seg_again rfl (ih (i + 1) s'' s'' H7 (by omega) hlt (Inv.grown back gr) st7 (fun b hb => ?_) (hmore e))
    obtain ⟨o, eo, _⟩ := T.obj _ _ st5 b hb
    exact (I7.pin (b, o) (List.mem_append_right _ (List.mem_append_right _ (mem_pinsAt hb eo)))).2.1
end
end SKG
end

section
namespace SKG
open PySem PySem.Spec PyProof.Rows L2 GxR
open Sem (wp)
theorem over_comp_frames {A : Around} {elt iter target : Expr} {scope : Scope} {pos : Pos} {it acc : Value} {cenv : Env} {l : List Env} (h : A.frames = some l) :
    (A.over (.compLoop (.GeneratorExp elt [⟨target, iter, [], 0⟩] scope pos) 0 it acc cenv) []).frames = some (cenv :: l) := by
  show pushEnvs [cenv] (pushEnvs (envsOf []) A.frames) = _
  rw [h]
  rfl
section
variable {X : Cx} {pins : List (Addr × Obj)} {σ : L2.St} {H : Hp} {s : Shared}
/-- the generator is made -/
theorem gen_made {c P : Addr} {elt iter : Expr} {x : Str} {px gpos : Pos} {scope : Scope} {own : List (Str × Nat)} {wi : TI} {te : TE} {ix k : Nat} {sv : Bool} {Q : VK}
    (hr : Room (k + 1) X.A) (TB : TabB X.base X.mg c P) (hcode : X.env.code = .ref c) (ok : BlkOk X.N X.env.scope scope own) (hN : X.N.Nodup) (hcell : ∀ y ∈ scope.names, y.2 ≠ .cell)
    (h0 : scope.names.lookup (".0" : Str) = some NameKind.local) (hco : scope.isCoroutine = false) (hix : X.N[ix]? = some x) (hxl : scope.names.lookup x = some .local) (hiv : ix ∈ own.map (·.2))
    (hi : PI X (.Name x px) iter wi)
    (he : ∀ (A : Around) (s : Shared) (H : Hp) (code : Value) (fp : List Addr) (pn : List (Addr × Obj)), Room k A → PE (genCx X A s H (gEnv X scope s.heap.objs.size code) fp pn) elt te)
    (hs : ∀ v, genFold iter X.env v = pure v) (I : Inv X pins σ H s) (h : tGen sv wi ix te (own.map (·.2)) P σ H Q) :
    wpAny (model X.prog X.w) X.A (eval (.GeneratorExp elt [⟨.Name x px, iter, [], 0⟩] scope gpos) X.env) (fun v s' => ∃ (a : Addr) (g n : Nat) (Stop Early : Shared → Prop), v = .ref a ∧ Asleep X.prog X.w X.A.in1 a g sv Stop Early n s' ∧
      (∀ s0 s1, Early s0 → Grow s0 s1 → EP X pins σ Q (.bool sv) s1) ∧ ∀ s0 s1, Stop s0 → Grow s0 s1 → EP X pins σ Q (.bool (!sv)) s1) X.xe s := by
  have hfree : ∀ y ∈ scope.names, y.2 = .free → ∃ c, X.env.cells.lookup y.1 = some c := fun y hy e => by
    rcases ok.free y hy e with k | k
    · exact I.ok.has _ (.inl k)
    · exact I.ok.has _ (.inr k)
  refine wpAny_GeneratorExp_make hco (closure_ok hfree) hcell h0 ok.kind (by have := hr.dp; omega) ?_ hs
  refine thn (hi.run pins s σ H _ I h) fun xv s1 h1 => thn h1 fun itv s2 h2 => ?_
  obtain ⟨it, fp, tn, J, H1, e, I2, T, st2, f2, ⟨ps, hP, ht⟩, hQ⟩ := h2
  subst e
  have hPs : s2.heap.get? P = some { cls := .none, data := .fields ps } := I2.hok P _ hP
  have cd : PySem.W.CodeHd s2.heap c P := TB.code.keeps I2.bk
  refine ⟨I2.nolimit, ?_⟩
  have cont : ∀ (code : Value) (h3 : Heap) (tk : Nat) (ps' : Array Value), Heap.ExtBut P s2.heap h3 → s2.heap.objs.size ≤ h3.objs.size → h3.get? P = some { cls := .none, data := .fields ps' } → (∃ more, ps' = ps ++ more) → TriplesOk ps'.toList →
      wpAny (model X.prog X.w) X.A (builtinsFor X.env.globals X.env.builtins) (fun bi s₄ =>
        ∀ h', h'.Ns s₄.heap.objs.size (fun y => if y = ".0" then some (.ref it) else none) → Heap.SameBut s₄.heap.objs.size (s₄.heap.push { cls := .type "frame", data := .dict #[] }) h' →
          (fun v s' => ∃ (a : Addr) (g n : Nat) (Stop Early : Shared → Prop), v = Value.ref a ∧ Asleep X.prog X.w X.A.in1 a g sv Stop Early n s' ∧
            (∀ s0 s1, Early s0 → Grow s0 s1 → EP X pins σ Q (.bool sv) s1) ∧ ∀ s0 s1, Stop s0 → Grow s0 s1 → EP X pins σ Q (.bool (!sv)) s1) (.ref h'.objs.size) { s₄ with
            gens := s₄.gens.push (.fresh (.compStart (.GeneratorExp elt [⟨.Name x px, iter, [], 0⟩] scope gpos) 0 (.ref it) .none (genEnv scope (cloFrom X.env.cells scope.names []) s₄.heap.objs.size code bi X.env))),
            toks := s₄.toks + 1 + 1 + 1,
            heap := h'.push { cls := .type "generator", data := .fields #[.int s₄.gens.size 0, .str "<genexpr>" (s₄.toks + 1), .str (X.env.qual ++ "<genexpr>") (s₄.toks + 1 + 1)] } }) X.xe { s2 with heap := h3, toks := tk } := by
    intro code h3 tk ps' hx hsz hP3 hmore ht3
    obtain ⟨bm, ob, e1, e2, e3, e4, e5, e6, e7, e8⟩ := TB.bm
    have keep3 : ∀ b u, b ≠ P → s2.heap.get? b = some u → h3.get? b = some u := fun b u hb e => hx b u hb e
    refine wpAny_builtinsFor (m := X.mg) (by rw [I2.ok.glob]; exact (I2.mod.glob.keeps I2.bk).extBut hx TB.gP) e1 e2 (keep3 _ _ e4 (I2.bk _ _ e5)) e6 e7 e8 ?_
    obtain ⟨more, em⟩ := hmore
    -- the table has grown
    have I3 := inv_tab (more := more) (h' := h3) (g' := s2.gens) (d' := s2.drawn) (t' := tk) I2 hP keep3 (by rw [← em]; exact hP3) I2.bare
    rw [← em] at I3
    have tb : Tabbed P H1 (upd H1 P (.tbl ps')) := ⟨⟨ps', upd_same, ht3⟩, fun b hb => upd_ne hb⟩
    obtain ⟨n, W, hW0, hstop, hgo⟩ := hQ _ tb
    have nP : ∀ b ∈ fp, b ≠ P := fun b hb z => by
      have q := (f2 b hb).1
      rw [z, hP] at q
      cases q
    have f3 : ∀ b ∈ fp, FpOk X pins (upd H1 P (.tbl ps')) b := fun b hb => ⟨(upd_ne (nP b hb)).trans (f2 b hb).1, (f2 b hb).2⟩
    have st3 : tn 0 h3 := T.keep _ _ _ st2 fun b hb o eo => keep3 b o (nP b hb) eo
    intro h' hn' hs'
    have hC : ∀ b o, h3.get? b = some o → h'.get? b = some o := fun b o e => hs'.extBut b o (Nat.ne_of_lt (Heap.lt_size e)) (Heap.get?_push_of_some _ e)
    have hsz' : h'.objs.size = h3.objs.size + 1 := by rw [hs'.1, Heap.size_push]
    -- the state at the generator's making
    generalize hgo2 : ({ cls := .type "generator", data := .fields #[.int s2.gens.size 0, .str "<genexpr>" (tk + 1), .str (X.env.qual ++ "<genexpr>") (tk + 1 + 1)] } : Obj) = gob
    have kp5 : ∀ b o, h3.get? b = some o → (h'.push gob).get? b = some o := fun b o e => Heap.get?_push_of_some _ (hC b o e)
    have hgen : ∀ h : Heap, h.get? h'.objs.size = some gob → h.IsGen h'.objs.size s2.gens.size := fun h e => ⟨gob, _, _, e, by rw [← hgo2], by rw [← hgo2], by rw [← hgo2]⟩
    have hgp : (h'.push gob).get? h'.objs.size = some gob := Heap.get?_push_size _ (by rw [← hgo2] <;> rfl)
    have hgd : ∀ v, gob.data ≠ .cell v := fun v z => by rw [← hgo2] at z; cases z
    have fpx : ∀ b ∈ fp, FpOk X pins (upd H1 P (.tbl ps')) b ∧ b < h3.objs.size := fun b hb => ⟨f3 b hb, by
      obtain ⟨o, eo, _⟩ := T.obj _ _ st3 b hb
      exact Heap.lt_size eo⟩
    have fin : ∀ {A2 : Around} {pins' : List (Addr × Obj)} {σ' : L2.St} {H' : Hp} {s0 s1 : Shared} {v : V} {u : Value}, Inv (genCx X A2 { s2 with heap := h3, toks := tk } (upd H1 P (.tbl ps')) (gEnv X scope h3.objs.size code) fp [(h'.objs.size, gob)]) pins' σ' H' s0 → Grow s0 s1 → RelV v u → Q v H' → EP X pins σ Q u s1 :=
      fun {A2 pins' σ' H' s0 s1 v u} I' gr r q => ⟨v, H', Inv.grown (gen_back I3 f3 I') gr, r, q⟩
    have hdA : X.A.in1.in1.handled = none := hr.hd
    have hroom : Room k (X.A.in1.in1.over (.compLoop (.GeneratorExp elt [⟨.Name x px, iter, [], 0⟩] scope gpos) 0 (.ref it) .none (gEnv X scope h3.objs.size code)) []) := by
      have d1 : (X.A.in1.in1.over (.compLoop (.GeneratorExp elt [⟨.Name x px, iter, [], 0⟩] scope gpos) 0 (.ref it) .none (gEnv X scope h3.objs.size code)) []).depth ≤ X.A.in1.in1.depth + 1 := Nat.le_of_eq rfl
      have d2 : (X.A.in1.in1.over (.compLoop (.GeneratorExp elt [⟨.Name x px, iter, [], 0⟩] scope gpos) 0 (.ref it) .none (gEnv X scope h3.objs.size code)) []).units ≤ X.A.in1.in1.units + 3 := Nat.le_of_eq rfl
      have d3 : X.A.in1.in1.depth = X.A.depth := rfl
      have d4 : X.A.in1.in1.units = X.A.units + 2 := rfl
      have := hr.dp
      have := hr.un
      exact ⟨hr.hd, by omega, by omega⟩
    have hfrm : (X.A.in1.in1.over (.compLoop (.GeneratorExp elt [⟨.Name x px, iter, [], 0⟩] scope gpos) 0 (.ref it) .none (gEnv X scope h3.objs.size code)) []).frames = some (gEnv X scope h3.objs.size code :: X.stack) := over_comp_frames I2.ok.frames
    refine ⟨h'.objs.size, s2.gens.size, n, fun s₁ => ∃ σ' H', Inv (genCx X (X.A.in1.in1.over (.compLoop (.GeneratorExp elt [⟨.Name x px, iter, [], 0⟩] scope gpos) 0 (.ref it) .none (gEnv X scope h3.objs.size code)) []) { s2 with heap := h3, toks := tk } (upd H1 P (.tbl ps')) (gEnv X scope h3.objs.size code) fp [(h'.objs.size, gob)]) [] σ' H' s₁ ∧ Q (.bl (!sv)) H', fun s₁ => ∃ σ' H', Inv (genCx X (X.A.in1.in1.over (.compLoop (.GeneratorExp elt [⟨.Name x px, iter, [], 0⟩] scope gpos) 0 (.ref it) .none (gEnv X scope h3.objs.size code)) []) { s2 with heap := h3, toks := tk } (upd H1 P (.tbl ps')) (gEnv X scope h3.objs.size code) fp [(h'.objs.size, gob)]) [] σ' H' s₁ ∧ Q (.bl sv) H', rfl, ⟨hgen _ hgp, I3.nolimit.keeps kp5, AllBare.push I2.bare rfl, by show _ < (s2.gens.push _).size; rw [Array.size_push]; exact Nat.lt_succ_self _, _, Array.getElem?_push_size .., fun s' gr => ⟨rfl, ?_⟩⟩, ?_, ?_⟩
    · have hC5 : (h'.push gob).Ns h3.objs.size (fun y => if y = ".0" then some (.ref it) else none) := hn'.push _
      have gr : Grow { s2 with gens := s2.gens.push (.fresh (.compStart (.GeneratorExp elt [⟨.Name x px, iter, [], 0⟩] scope gpos) 0 (.ref it) .none (gEnv X scope h3.objs.size code))), toks := tk + 1 + 1 + 1, heap := h'.push gob } s' := gr
      have I5 : Inv (genCx X (X.A.in1.in1.over (.compLoop (.GeneratorExp elt [⟨.Name x px, iter, [], 0⟩] scope gpos) 0 (.ref it) .none (gEnv X scope h3.objs.size code)) []) { s2 with heap := h3, toks := tk } (upd H1 P (.tbl ps')) (gEnv X scope h3.objs.size code) fp [(h'.objs.size, gob)]) [] (wipe σ (own.map (·.2))) (upd H1 P (.tbl ps')) s' :=
        gen_start (s := { s2 with heap := h3, toks := tk }) I3 ok hN hcell fpx hr.hd hfrm gr.os gr.bare (fun b o e => gr.keep b o (kp5 b o e)) (hC5.keeps gr.keep) (fun p hp => by
          rw [List.mem_singleton.mp hp]
          exact ⟨gr.keep _ _ hgp, by show h3.objs.size < h'.objs.size; omega, hgd⟩)
      have st5 : tn 0 s'.heap := T.keep _ _ _ st3 fun b hb o eo => gr.keep b o (kp5 b o eo)
      have loop := seg_turns (A2 := X.A.in1.in1) (pos := gpos) (iter := iter) (px := px) (scope := scope) (sv := sv) (a := h'.objs.size) (g := s2.gens.size) (pn := [(h'.objs.size, gob)]) (Q := Q) hN hix hxl hco hiv T
        (fun s hp => hgen _ (hp (h'.objs.size, gob) (List.mem_singleton.mpr rfl))) hstop hgo (he _ { s2 with heap := h3, toks := tk } (upd H1 P (.tbl ps')) code fp _ hroom)
        (fun H' hn b hb => ⟨hn b hb, Nat.ne_of_lt (fpx b hb).2, fun z => (by
            have z : b ∈ frs X.stack := z
            rcases List.mem_cons.mp (I3.stkSub b z) with z | z
            · exact (f3 b hb).2.1 z
            · exact (f3 b hb).2.2.1 z), .inl hb, fun y c e => I5.ok.exf b hb |>.2 y c e, fun p hp => by
              have hp : p ∈ [(h'.objs.size, gob)] ++ [] := hp
              rw [List.append_nil] at hp
              rw [List.mem_singleton.mp hp]
              have q : b < h'.objs.size := Nat.lt_trans (fpx b hb).2 (by rw [hsz']; exact Nat.lt_succ_self _)
              exact Nat.ne_of_gt q⟩)
        n 0 s' s' (upd H1 P (.tbl ps')) (Nat.sub_zero _) (Nat.zero_le _) I5 st5 (fun b hb => (f3 b hb).1) hW0
      show Seg _ X.A.in1.in1 _ _ _ s' _ ((compStart (.GeneratorExp elt [⟨.Name x px, iter, [], 0⟩] scope gpos) 0 (.ref it) .none (gEnv X scope h3.objs.size code)).onRaise (leaving (gEnv X scope h3.objs.size code))) [] s'
      unfold compStart
      rw [Sem.onRaise_eq_wrap]
      show Seg _ X.A.in1.in1 _ _ _ s' _ ((ask >>= _).wrap _ _ _ _) [] s'
      refine seg_bind_wrap (wpAny_askSetting ?_)
      split
      · exact seg_again rfl loop
      · first
          | exact seg_bind_wrap (wpAny_rule (seg_bind_wrap (wpAny_standAt (seg_bind_wrap (T.self _ 0 s' _ _ st5 (seg_again rfl loop))))))
          | (refine seg_bind_wrap (wpAny_rule ?_); show Seg _ X.A.in1.in1 _ _ _ s' _ ((standAt iter.pos >>= _).wrap _ _ _ _) [] s'; exact seg_bind_wrap (wpAny_standAt (seg_bind_wrap (T.self _ 0 s' _ _ st5 (seg_again rfl loop)))))
    · intro s0 s1 z gr
      obtain ⟨σ', H', I', q⟩ := z
      exact fin (v := .bl sv) I' gr rfl q
    · intro s0 s1 z gr
      obtain ⟨σ', H', I', q⟩ := z
      exact fin (v := .bl (!sv)) I' gr rfl q
  cases hf : codeAmong gpos ps.toList with
  | none =>
    refine wpAny_genexprCodeX hcode (cd.code hPs ht) (cd.tab hPs) hf fun c' h' tk hx hge hlt hco' _ htab' _ => ?_
    obtain ⟨o1, vs, f1, tf, fl, tg, inF, tx, tt, op, _, _, _, _, _, _, _, _, _, htr, _⟩ := hco'
    exact cont _ h' tk _ hx (Nat.le_trans hge (Nat.le_of_lt hlt)) htab'.2 ⟨_, rfl⟩ htr
  | some cv =>
    refine wpAny_genexprCode_hit hcode (cd.code hPs ht) hf ?_
    exact cont cv s2.heap s2.toks ps (Heap.ExtBut.refl _ _) (Nat.le_refl _) hPs ⟨#[], by simp⟩ ht
/-- any(elt for x in iter) -/
theorem pe_anyG {c P : Addr} {elt iter : Expr} {x : Str} {px p pos gpos : Pos} {scope : Scope} {own : List (Str × Nat)} {wi : TI} {te : TE} {ix k : Nat}
    (hr : Room (k + 1) X.A) (hg : Gl X "any") (hm : X.mg "any" = none) (TB : TabB X.base X.mg c P) (hcode : X.env.code = .ref c) (ok : BlkOk X.N X.env.scope scope own) (hN : X.N.Nodup) (hcell : ∀ y ∈ scope.names, y.2 ≠ .cell)
    (h0 : scope.names.lookup (".0" : Str) = some NameKind.local) (hco : scope.isCoroutine = false) (hix : X.N[ix]? = some x) (hxl : scope.names.lookup x = some .local) (hiv : ix ∈ own.map (·.2))
    (hi : PI X (.Name x px) iter wi)
    (he : ∀ (A : Around) (s : Shared) (H : Hp) (code : Value) (fp : List Addr) (pn : List (Addr × Obj)), Room k A → PE (genCx X A s H (gEnv X scope s.heap.objs.size code) fp pn) elt te)
    (hs : ∀ v, genFold iter X.env v = pure v := by intro _; rfl)
    (hst : starEach [.GeneratorExp elt [⟨.Name x px, iter, [], 0⟩] scope gpos] X.env = (false, eval (.GeneratorExp elt [⟨.Name x px, iter, [], 0⟩] scope gpos) X.env) :: starEach [] X.env := by rfl) :
    PE X (.Call (.Name "any" p) [.GeneratorExp elt [⟨.Name x px, iter, [], 0⟩] scope gpos] [] pos) (tGen true wi ix te (own.map (·.2)) P) := by
  refine ⟨fun pins s σ H Q I h => ?_⟩
  refine wpAny_Call_Name_kw (ld_blt I hg hm boot_any ?_)
  refine PyProof.Rows.callWith_builtin1 ?_ hst (by rfl)
  rw [hst]
  show wpAny _ _ (spliced ((false, eval (.GeneratorExp elt [⟨.Name x px, iter, [], 0⟩] scope gpos) X.env) :: backTo pos (starEach [] X.env))) _ _ s
  refine Calls.spliced_cons (thn (gen_made hr TB hcode ok hN hcell h0 hco hix hxl hiv hi he hs I h) fun v s' hh => ?_)
  obtain ⟨a, g, n, Stop, Early, rfl, z, hE, hS⟩ := hh
  refine Calls.spliced_nil ?_
  exact call_any_asleep hr.hd hr.depth z (fun s0 s1 h1 h2 => hE s0 s1 h1 h2) fun s0 s1 h1 h2 => hS s0 s1 h1 h2
/-- all(elt for x in iter) -/
theorem pe_allG {c P : Addr} {elt iter : Expr} {x : Str} {px p pos gpos : Pos} {scope : Scope} {own : List (Str × Nat)} {wi : TI} {te : TE} {ix k : Nat}
    (hr : Room (k + 1) X.A) (hg : Gl X "all") (hm : X.mg "all" = none) (hb : bootBuiltins "all" = some (.builtin "all")) (TB : TabB X.base X.mg c P) (hcode : X.env.code = .ref c) (ok : BlkOk X.N X.env.scope scope own) (hN : X.N.Nodup) (hcell : ∀ y ∈ scope.names, y.2 ≠ .cell)
    (h0 : scope.names.lookup (".0" : Str) = some NameKind.local) (hco : scope.isCoroutine = false) (hix : X.N[ix]? = some x) (hxl : scope.names.lookup x = some .local) (hiv : ix ∈ own.map (·.2))
    (hi : PI X (.Name x px) iter wi)
    (he : ∀ (A : Around) (s : Shared) (H : Hp) (code : Value) (fp : List Addr) (pn : List (Addr × Obj)), Room k A → PE (genCx X A s H (gEnv X scope s.heap.objs.size code) fp pn) elt te)
    (hs : ∀ v, genFold iter X.env v = pure v := by intro _; rfl)
    (hst : starEach [.GeneratorExp elt [⟨.Name x px, iter, [], 0⟩] scope gpos] X.env = (false, eval (.GeneratorExp elt [⟨.Name x px, iter, [], 0⟩] scope gpos) X.env) :: starEach [] X.env := by rfl) :
    PE X (.Call (.Name "all" p) [.GeneratorExp elt [⟨.Name x px, iter, [], 0⟩] scope gpos] [] pos) (tGen false wi ix te (own.map (·.2)) P) := by
  refine ⟨fun pins s σ H Q I h => ?_⟩
  refine wpAny_Call_Name_kw (ld_blt I hg hm hb ?_)
  refine PyProof.Rows.callWith_builtin1 ?_ hst (by rfl)
  rw [hst]
  show wpAny _ _ (spliced ((false, eval (.GeneratorExp elt [⟨.Name x px, iter, [], 0⟩] scope gpos) X.env) :: backTo pos (starEach [] X.env))) _ _ s
  refine Calls.spliced_cons (thn (gen_made hr TB hcode ok hN hcell h0 hco hix hxl hiv hi he hs I h) fun v s' hh => ?_)
  obtain ⟨a, g, n, Stop, Early, rfl, z, hE, hS⟩ := hh
  refine Calls.spliced_nil ?_
  exact call_all_asleep hr.hd hr.depth z (fun s0 s1 h1 h2 => hE s0 s1 h1 h2) fun s0 s1 h1 h2 => hS s0 s1 h1 h2
end
end SKG
end

section
/-! max of a tuple of ints; for i, x in enumerate(tuple). -/
namespace SKR
open PySem PySem.Spec PyProof.Rows L2
section
variable {prog : Program} {w : World} {A : Around} {E : Value → Shared → Prop} {s : Shared}
theorem max_tup {l : Addr} {its : List Value} {ns : List Int} {Q : Value → Shared → Prop} (hh : A.handled = none) (hl : s.heap.IsTuple l its.toArray) (hi : IntsAre its ns) (hne : 0 < ns.length)
    (h : ∀ h' tk M t', (∀ b o, s.heap.get? b = some o → h'.get? b = some o) → M ∈ ns → (∀ a, a ∈ ns → a ≤ M) → Q (.int M t') { s with heap := h', toks := tk }) : wpAny (model prog w) A (call (.builtin "max") [.ref l]) Q E s := by
  obtain ⟨xs, e⟩ := hi.allInts.items
  have hn : numsOf (intItems xs).toList = ns := by rw [← e]; exact hi.numsOf
  rw [nums_intItems] at hn
  subst hn
  rw [e] at hl
  have hsz : 0 < xs.size := by simpa using hne
  have hlt : l < s.heap.objs.size := by obtain ⟨_, q, _⟩ := hl; exact Heap.lt_size q
  have szp : ∀ o : Obj, (s.heap.push o).objs.size = s.heap.objs.size + 1 := fun o => Heap.size_push ..
  refine call_max_walk (wpAny_pyIter_tuple hl ?_)
  refine ⟨_, _, _, _, _, _, _, rfl, Walks.tuple (A := A.in1) hh s.heap.objs.size l (Nat.ne_of_lt hlt) (intItems xs), ⟨⟨_, Heap.get?_push_size _ rfl, rfl, rfl⟩, hl.push _⟩, fun b hb => ?_, by simpa [intItems] using hsz, CmpOf.ints_gt (numAt xs) (fun _ _ => intItems_at), fun v h' tk hP hk => ?_⟩
  · show b < (s.heap.push _).objs.size
    rw [szp]
    have e' : b = s.heap.objs.size ∨ b = l := by simpa using hb
    rcases e' with z | z
    · rw [z]; exact Nat.lt_succ_self _
    · rw [z]; exact Nat.lt_succ_of_lt hlt
  · obtain ⟨t, rfl⟩ := intItems_at hP
    obtain ⟨h1, h2⟩ := argBest_gt (numAt xs) (xs.size - 1)
    have esz : (intItems xs).size = xs.size := by simp [intItems]
    rw [esz]
    refine h h' tk _ t (fun b o e => hk b o (fun hm => ?_) (Heap.get?_push_of_some _ e)) ?_ fun a ha => ?_
    · have e' : b = s.heap.objs.size := by simpa using hm
      exact absurd (e' ▸ Heap.lt_size e) (Nat.lt_irrefl _)
    · rw [numAt_eq]; exact PySem.getD_mem (by rw [List.length_map, Array.length_toList]; omega)
    · obtain ⟨j, hj, rfl⟩ := mem_getD ha
      rw [List.length_map, Array.length_toList] at hj
      rw [← numAt_eq]; exact h2 j (by omega)
end
/-- max(t) of a tuple of ints -/
def rMaxT (K : PySem.W.Frag) : List V → Hp → VK → Prop := fun vs H Q => ∃ (a : Addr) (ns : List Int), vs = [V.ref a] ∧ SqT K H a (ns.map V.int) ∧ 0 < ns.length ∧ ∀ m, m ∈ ns → (∀ y, y ∈ ns → y ≤ m) → Q (.int m) H
theorem cr_maxT {X : Cx} (hc : X.calm = true) : CallR X (.builtin "max") (rMaxT X.K) := by
  intro pins s σ H vs us Q I r h
  obtain ⟨a, ns, rfl, hs, hne, q⟩ := h
  obtain ⟨its, rv, hl, _⟩ := I.tuple hs
  rw [Vals.ref1 r]
  exact max_tup (I.ok.hd hc) (show s.heap.IsTuple a its.toArray from hl) rv.ints hne fun h' tk m t' hk h1 h2 => ⟨.int _, H, I.kept hk, ⟨_, rfl⟩, q m h1 h2⟩

/-! ### enumerate -/
set_option maxHeartbeats 4000000 in
theorem meets_enum1 {v : Value} {o : Obj} {H : Heap → Prop} (B : Begins v o H) :
    Meets (Builtin.«enumerate.__new__» ⟨[.type "enumerate", v], []⟩) (fun _ R s => H s.heap ∧
      R (.ok (.ret (.ref (s.heap.push o).objs.size))) { s with heap := (s.heap.push o).push { cls := .type "enumerate", data := .fields #[.none, .bool false, .ref s.heap.objs.size, rawInt 0, .none, .none] } }) :=
  .of_wp fun prog w A R s h => by
    obtain ⟨hp, g, d, tk, os⟩ := s
    obtain ⟨h1, h⟩ := h
    have hsub := sub_enumerate
    have q1 : ∀ {A' : Around} {E : Value → Shared → Prop} {Q : Value → Shared → Prop}, Q (.ref hp.objs.size) ⟨hp.push o, g, d, tk, os⟩ → wpAny (model prog w) A' (pyIter v) Q E ⟨hp, g, d, tk, os⟩ :=
      fun q => B.iter prog w _ _ ⟨hp, g, d, tk, os⟩ _ h1 q
    wp_walk using q1
    refine wpAny_stack_any fun st => wpAny_pure ?_
    split
    · rename_i c _ _ _ _ _
      cases (c == Value.type "enumerate")
      · wp_walk using q1
        exact ⟨_, rfl, h⟩
      · wp_walk using q1
        exact ⟨_, rfl, h⟩
    · wp_walk using q1
      exact ⟨_, rfl, h⟩
section
variable {prog : Program} {w : World} {A : Around} {E : Value → Shared → Prop} {s : Shared}
theorem call_enum1 {v : Value} {o : Obj} {H : Heap → Prop} {Q : Value → Shared → Prop} (B : Begins v o H) (h1 : H s.heap)
    (h : ∀ h', IsEnum h' (s.heap.objs.size + 1) s.heap.objs.size 0 .none → h'.get? s.heap.objs.size = some o → h'.objs.size = s.heap.objs.size + 2 →
      (∀ b o, s.heap.get? b = some o → h'.get? b = some o) → Q (.ref (s.heap.objs.size + 1)) { s with heap := h' }) :
    wpAny (model prog w) A (call (.type "enumerate") [v]) Q E s := by
  refine callType_new F.called_enumerate (by decide) (F.typeCall_enumerate_1 _) (F.newCall_enumerate_1 _) (fun obj => F.args_object_init_2 obj _) F.entry_enumerate_new (meets_enum1 B) ⟨h1, ?_⟩
  have hz : (s.heap.push o).objs.size = s.heap.objs.size + 1 := Heap.size_push ..
  show _ ∧ _
  rw [hz]
  have he : IsEnum ((s.heap.push o).push { cls := .type "enumerate", data := .fields #[.none, .bool false, .ref s.heap.objs.size, rawInt 0, .none, .none] }) (s.heap.objs.size + 1) s.heap.objs.size 0 .none := by
    have := Heap.get?_push_size (s.heap.push o) (o := { cls := .type "enumerate", data := .fields #[.none, .bool false, .ref s.heap.objs.size, rawInt 0, .none, .none] }) rfl
    rw [hz] at this
    exact this
  refine ⟨⟨_, he, rfl⟩, h _ he (Heap.get?_push_of_some _ (Heap.get?_push_size _ B.free)) (by rw [Heap.size_push, hz]) fun b o x => Heap.get?_push_of_some _ (Heap.get?_push_of_some _ x)⟩
end
/-- the tuple at a, its items in new pairs with their places -/
def Iet (K : PySem.W.Frag) (a : Addr) : It :=
  ⟨fun i H => ∃ (xs : List V) (x : V), SqT K H a xs ∧ xs[i]? = some x, fun i H v H' => ∃ T x, v = .ref T ∧ H T = none ∧ H' = upd H T (.tup [.int (i : Nat), x]) ∧ ∀ xs, SqT K H a xs → xs[i]? = some x, fun i H => ∃ xs : List V, SqT K H a xs ∧ xs.length = i⟩
theorem turn_enumT {P : Program} {w : World} {K : PySem.W.Frag} {elts : List Expr} {kk : Nat} {tpos : Pos} (a e it : Addr) :
    Turn P w K (.Tuple elts kk tpos) (Iet K a) [e, it] e (fun i h => (∃ old, IsEnum h e it ((i : Nat) : Int) old) ∧ h.IsTupleIter it a i ∧ e ≠ it ∧ e ≠ a ∧ a ≠ it) where
  mem := by simp
  obj := fun i h st b hb => by
    obtain ⟨⟨old, he⟩, ⟨o, ho, hc, hd⟩, _⟩ := st
    have e' : b = e ∨ b = it := by simpa using hb
    rcases e' with z | z
    · rw [z]; exact ⟨_, he, fun v q => nomatch q⟩
    · rw [z]; exact ⟨o, ho, fun v q => by rw [hd] at q; cases q⟩
  keep := fun i h h' st k => let ⟨⟨old, he⟩, hi, hne⟩ := st; ⟨⟨old, k e (by simp) _ he⟩, hi.at fun o q => k it (by simp) o q, hne⟩
  item := by
    intro X hP hw hK hc i pins s σ H E I hf st hg
    subst hP hw hK
    obtain ⟨⟨old, he⟩, hit, hne, hea, hai⟩ := st
    obtain ⟨xs, x, hq, hx⟩ := hg
    obtain ⟨its, rv, p, hz⟩ := I.tuple hq
    have hlen := rv.length
    have hi : i < its.toArray.size := by
      obtain ⟨h1, _⟩ := List.getElem?_eq_some_iff.mp hx
      rw [List.size_toArray]
      omega
    have hel : e < s.heap.objs.size := Heap.lt_size he
    have hil : it < s.heap.objs.size := by obtain ⟨_, q, _⟩ := hit; exact Heap.lt_size q
    refine wpAny_pyNext_enum_itemC (Draws.tuple (A := X.A.in1) (I.ok.hd hc) it a hai its.toArray) he ⟨hit, p⟩ hi hne (fun z => ?_) fun u h' tk hu ho hst' hT hsz hk => ?_
    · have z' : e = it ∨ e = a := by simpa using z
      exact z'.elim hne hea
    have ru : RelV x u := by
      obtain ⟨u', hu', ru⟩ := rv.get hx
      have hu : its.toArray[i]? = some u := hu
      have hu2 : its[i]? = some u := by simpa using hu
      rw [hu'] at hu2
      cases hu2
      exact ru
    refine ⟨_, rfl, wpAny_letOwnedTupleGo_enum (s := { s with heap := h', toks := tk + 1 }) ho fun h'' he' sb => ?_⟩
    have hT2 : h''.get? s.heap.objs.size = some { cls := .type "tuple", data := .seq #[.int i tk, u] } := (sb.2 _ (Nat.ne_of_gt hel)).trans hT
    have new : ObjOk X.prog X.w (upd H s.heap.objs.size (.tup [.int (i : Nat), x])) h'' s.heap.objs.size (.tup [.int (i : Nat), x]) :=
      ⟨by show 2 ≤ sizeLine; decide, [.int i tk, u], .cons ⟨_, rfl⟩ (.cons ru .nil), ⟨_, hT2, rfl, _, rfl⟩⟩
    have I1 : Inv X pins σ (upd H s.heap.objs.size (.tup [.int (i : Nat), x])) { s with heap := h'', toks := tk + 1 } :=
      I.turnedNew (ch := [e, it]) (fun b ob hb q => (sb.2 b (fun z => hb (by simp [z]))).trans (hk b ob (fun z => hb (by simp [z])) (fun z => hb (by simp [z])) q)) hf (Nat.le_refl _) new
    refine ⟨.ref s.heap.objs.size, _, I1, rfl, ⟨_, x, rfl, I.hok.fresh (Nat.le_refl _), rfl, fun ys hy => by rw [I.tuple_inj hy hq]; exact hx⟩, ⟨⟨u, ?_⟩, hst'.1.at fun o q => (sb.2 it (Ne.symm hne)).trans q, hne, hea, hai⟩, fun b hb => ?_⟩
    · have e1 : ((i + 1 : Nat) : Int) = (i : Int) + 1 := by omega
      rw [e1]; exact he'
    · have hb' : b < s.heap.objs.size := by
        have e' : b = e ∨ b = it := by simpa using hb
        rcases e' with z | z
        · rw [z]; exact hel
        · rw [z]; exact hil
      rw [upd_ne (Nat.ne_of_lt hb')]
      exact (hf b hb).1
  done := by
    intro X hP hw hK hc i pins s σ H E I hf st hg
    subst hP hw hK
    obtain ⟨⟨old, he⟩, hit, hne, hea, hai⟩ := st
    obtain ⟨xs, hq, hx⟩ := hg
    obtain ⟨its, rv, p, hz⟩ := I.tuple hq
    obtain ⟨f0, f1, f2, f3, f4, f5⟩ := hf it (by simp)
    have hl := rv.length
    have hsz : its.toArray.size = i := by rw [List.size_toArray]; omega
    exact wpAny_pyNext_enum_endD (Draws.tuple (A := X.A.in1) (I.ok.hd hc) it a hai its.toArray) he ⟨by rw [hsz]; exact hit, p⟩ fun h' eb => ⟨rfl, I.turned (t' := s.toks) (fun b o hb q => eb b o hb q) f0 f1 f3 f4 f5⟩
  self := fun A i s Q E st h => let ⟨⟨_, he⟩, _⟩ := st; wpAny_pyIter_enum he h
def iEnumT (K : PySem.W.Frag) (ta : TA) : TI := fun σ H R => ta σ H fun vs H1 => ∃ a xs, vs = [.ref a] ∧ SqT K H1 a xs ∧ R (Iet K a) H1
theorem pi_enumT {X : Cx} {e : Expr} {ta : TA} {p pos tpos : Pos} {elts : List Expr} {kk : Nat} (hg : Gl X "enumerate") (hm : X.mg "enumerate" = none) (ha : PA X [e] ta) (hs : starEach [e] X.env = [(false, eval e X.env)] := by rfl) :
    PI X (.Tuple elts kk tpos) (.Call (.Name "enumerate" p) [e] [] pos) (iEnumT X.K ta) := by
  refine ⟨fun pins s σ H R I h => ?_⟩
  refine Call_ (ld_blt I hg hm boot_enumerate (PyProof.Rows.callWith_type1 (thn (ha.run pos pins s σ H _ I h) fun us s1 ⟨vs, H1, I1, r1, q1⟩ => ?_) hs rfl))
  obtain ⟨a, xs, ex, hq, q⟩ := q1
  subst ex
  cases r1 with
  | cons r rr =>
    cases rr
    cases r
    obtain ⟨its, rv, p', hz⟩ := I1.tuple hq
    have hal : a < s1.heap.objs.size := by obtain ⟨_, q, _⟩ := p'; exact Heap.lt_size q
    refine call_enum1 (begins_tuple a its.toArray) (show s1.heap.IsTuple a its.toArray from p') fun h' he hit hsz hk => wpAny_pyIter_enum he ?_
    have I2 : Inv X pins σ H1 { s1 with heap := h' } := I1.kept (t' := s1.toks) hk
    have n1 : s1.heap.objs.size + 1 ≠ a := Nat.ne_of_gt (Nat.lt_succ_of_lt hal)
    have n2 : a ≠ s1.heap.objs.size := Nat.ne_of_lt hal
    refine ⟨s1.heap.objs.size + 1, [s1.heap.objs.size + 1, s1.heap.objs.size], _, _, H1, rfl, I2, turn_enumT a (s1.heap.objs.size + 1) s1.heap.objs.size, ⟨⟨.none, he⟩, ⟨_, hit, rfl, rfl⟩, Nat.succ_ne_self _, n1, n2⟩, fun b hb => ?_, q⟩
    have e' : b = s1.heap.objs.size + 1 ∨ b = s1.heap.objs.size := by simpa using hb
    have hle : s1.heap.objs.size ≤ b := by
      rcases e' with z | z
      · rw [z]; exact Nat.le_add_right _ _
      · rw [z]; exact Nat.le_refl _
    exact I1.fpOk hle (I1.hok.fresh hle)
theorem walk_enumT {K : PySem.W.Frag} {a : Addr} {xs : List V} : Walk (Iet K a) xs.length (fun H => SqT K H a xs) (YPair (fun i => some (.int (i : Nat))) (fun i => xs[i]?)) := by
  refine ⟨fun i _ hi q => ⟨xs, xs[i], q, by simp [hi]⟩, fun _ q => ⟨xs, q, rfl⟩, fun i H v H' _ q y => ?_⟩
  obtain ⟨T, x, h1, h2, h3, h4⟩ := y
  exact ⟨T, .int (i : Nat), x, h1, h2, h3, rfl, h4 xs q⟩
end SKR
end

section
/-! The text by places; what stands behind the top; words for charts. -/
namespace SK
open PySem PySem.Spec PyProof.Rows L2 GxR SKG SKR
/-! ### the text -/
def top (i : Nat) : Stmt := PySem.Challenge.pw_starlands_k02_whole_takings.main.body.getD i (.Pass ⟨0, 0, 0, 0⟩)
abbrev sIsIn : Stmt := top 10
abbrev sNear : Stmt := top 11
abbrev sLenOf : Stmt := top 12
abbrev sHangs : Stmt := top 13
abbrev sHeld : Stmt := top 14
abbrev sAreCells : Stmt := top 15
abbrev sIsMap : Stmt := top 16
abbrev sNeedMap : Stmt := top 17
abbrev sLandsOf : Stmt := top 18
abbrev sIsTaking : Stmt := top 21
abbrev sIsMade : Stmt := top 22
abbrev sNeedTaking : Stmt := top 23
abbrev sCanTake : Stmt := top 24
abbrev sAllTakings : Stmt := top 25
abbrev sTakings : Stmt := top 26
abbrev sTaken : Stmt := top 27
abbrev sTrace : Stmt := top 28
abbrev sNeedRow : Stmt := top 29
abbrev sDone : Stmt := top 30
abbrev sTraced : Stmt := top 31
abbrev sTakenBack : Stmt := top 32
abbrev sLTaken : Stmt := top 34
abbrev sLPick : Stmt := top 35
abbrev sLAlike : Stmt := top 36
abbrev sLNear : Stmt := top 37
abbrev sLHangs : Stmt := top 38
abbrev sLMap : Stmt := top 39
abbrev sLTakings : Stmt := top 40
abbrev sLBehind : Stmt := top 41
abbrev sLWalk : Stmt := top 43
abbrev sLIsland : Stmt := top 44
abbrev sLTold : Stmt := top 45
abbrev sLaw : Stmt := top 46
abbrev sRowInit : Stmt := inClass (top 4) 0

/-- what the top has written, but for the defs -/
structure Txt (mg : Str → Option Value) : Prop where
  isi : mg "isinstance" = none
  int : mg "int" = none
  bool : mg "bool" = none
  tuple : mg "tuple" = none
  list : mg "list" = none
  str : mg "str" = none
  len : mg "len" = none
  range : mg "range" = none
  max : mg "max" = none
  any : mg "any" = none
  all : mg "all" = none
  enum : mg "enumerate" = none
  sorted : mg "sorted" = none
  la : ∃ t, mg "LEAST_ARMS" = some (.int 3 t)
  ma : ∃ t, mg "MOST_ARMS" = some (.int 4 t)
  ml : ∃ t, mg "MOST_LENGTH" = some (.int 4 t)
  mr : ∃ t, mg "MOST_ROW" = some (.int 40 t)

/-- a def at its name, by its promise -/
structure Dn (P : Program) (w : World) (K : PySem.W.Frag) (mg : Str → Option Value) (base : Heap) (CX : CXT) (k : Nat) (x : Str) (ps : List Str) (sp : Sp) : Prop where
  ex : ∃ (f : Addr) (fd : FuncData), mg x = some (.ref f) ∧ PySem.W.keepIn K (.ref f) = true ∧ Binds K fd ps [] ∧ FnOk P w K mg base CX k f fd ps sp
theorem pe_d {X : Cx} {k : Nat} {x : Str} {ps : List Str} {sp : Sp} {p pos : Pos} {e : Expr} {es : List Expr} {t : TA} (F : Dn X.prog X.w X.K X.mg X.base CX0 k x ps sp) (hr : Room k X.A) (ha : PA X (e :: es) t) (hg : Gl X x := by rfl)
    (hdb : (x == ("__debug__" : Str)) = false := by decide) (he : starEach (e :: es) X.env = (false, eval e X.env) :: starEach es X.env := by rfl) (hpl : (backTo pos (starEach es X.env)).any (·.1) = false := by rfl) :
    PE X (.Call (.Name x p) (e :: es) [] pos) (tCall sp [] E0 t) := by
  obtain ⟨f, fd, hm, hk, hb, G⟩ := F.ex
  exact pe_call G hr hg hm hk hb .nil pass0 ha hdb he hpl
/-- a def whose code object is told -/
structure FunC (K : PySem.W.Frag) (x : Str) (st : Stmt) (f : Addr) (fd : FuncData) (c : Addr) : Prop where
  ex : ∃ (oc : Value) (od : Option Addr) (kV doc pm : Value) (an : Option Addr) (ct : Value) (osl : Array (Option Value)),
    fd = PySem.W.fnOf x x (defArgs st) (defBody st) (defScope st) .none kV doc pm an (.ref c) ct ∧ K.lookup f = some ⟨oc, od, .func fd, osl⟩ ∧ PySem.W.codeIn K (.ref c) x = true
section
variable {P : Program} {w : World} {K : PySem.W.Frag} {mg : Str → Option Value} {base : Heap}
theorem FunC.ok {x : Str} {st : Stmt} {f c : Addr} {fd : FuncData} {N ps : List Str} {k : Nat} {sp : Sp} (F : FunC K x st f fd c) (S : FnScope N ps (defScope st)) (len : ∀ vs H Q E, sp vs H Q E → vs.length = ps.length)
    (hbody : ∀ (A : Around) (outer : List Env) (s : Shared) (H : Hp) (vs : List V) (Q : VK) (E : XK), Room k (A.deeper (envOfC x (defScope st) s.heap.objs.size f (.ref c))) → sp vs H Q E →
      ∃ t, PSs (cxOf CX0 P w K mg base N x (defScope st) f (.ref c) A outer s H E).nox (defBody st) t ∧ t { nx := fun _ H' => Q .non H', rt := Q } (start N vs) H) : FnOk P w K mg base CX0 (k + 1) f fd ps sp := by
  obtain ⟨oc, od, kV, doc, pm, an, ct, osl, rfl, lk, hcd⟩ := F.ex
  refine fn_of lk hcd S len fun A outer s H vs Q E hr hsp => ?_
  obtain ⟨t, h, q⟩ := hbody A outer s H vs Q E hr hsp
  exact ⟨t, h.nox, q⟩
end

/-! ### the heap: all but the tables of code objects stays -/
structure Gw (PA PM : Addr) (H H' : Hp) : Prop where
  keep : ∀ b o, H b = some o → (∀ ps, o ≠ .tbl ps) → H' b = some o
  keepT : ∀ b, b ≠ PA → b ≠ PM → ∀ o, H b = some o → H' b = some o
  tab : ∀ P, TabG H P → TabG H' P
  free : ∀ l, H' l = none → H l = none
section
variable {PA PM : Addr} {K : PySem.W.Frag} {H H' H1 : Hp}
theorem Gw.refl (H : Hp) : Gw PA PM H H := ⟨fun _ _ h _ => h, fun _ _ _ _ h => h, fun _ h => h, fun _ h => h⟩
theorem Gw.trans (a : Gw PA PM H H1) (b : Gw PA PM H1 H') : Gw PA PM H H' := ⟨fun c o h n => b.keep c o (a.keep c o h n) n, fun c h1 h2 o h => b.keepT c h1 h2 o (a.keepT c h1 h2 o h), fun P h => b.tab P (a.tab P h), fun l h => a.free l (b.free l h)⟩
theorem Gw.of (e : Same H H') : Gw PA PM H H' := ⟨fun b o h _ => e b o h, fun b _ _ o h => e b o h, fun P h => let ⟨ps, h1, h2⟩ := h; ⟨ps, e _ _ h1, h2⟩, fun l h => e.free h⟩
theorem Gw.tbd {P : Addr} (hP : P = PA ∨ P = PM) (t : TabG H P) (e : Tabbed P H H') : Gw PA PM H H' := by
  obtain ⟨ps, h1, _⟩ := t
  obtain ⟨tg, ek⟩ := e
  refine ⟨fun b o h n => ?_, fun b n1 n2 o h => ?_, fun P' h => ?_, fun l h => ?_⟩
  · have hb : b ≠ P := fun z => by
      rw [z, h1] at h
      exact n ps (Option.some.inj h).symm
    rw [ek b hb]; exact h
  · have hb : b ≠ P := fun z => by
      rcases hP with z' | z'
      · exact n1 (z.trans z')
      · exact n2 (z.trans z')
    rw [ek b hb]; exact h
  · by_cases hb : P' = P
    · rw [hb]; exact tg
    · obtain ⟨ps', h2, h3⟩ := h
      exact ⟨ps', by rw [ek P' hb]; exact h2, h3⟩
  · by_cases hb : l = P
    · obtain ⟨ps', h2, _⟩ := tg
      rw [hb, h2] at h
      cases h
    · rw [← ek l hb]; exact h
/-- a new object beside -/
theorem same_new {p : Addr} {o : HO} (hp : H p = none) : Same H (upd H p o) := fun b u e => by
  rw [upd_ne (ne_of_none e hp)]; exact e
theorem sqT_same {a : Addr} {xs : List V} (e : Same H H') (h : SqT K H a xs) : SqT K H' a xs := by
  rcases h with (h | ⟨o, h⟩) | h
  · exact .inl (.inl (e _ _ h))
  · exact .inl (.inr ⟨o, e _ _ h⟩)
  · exact .inr h
theorem sqT_gw {a : Addr} {xs : List V} (e : Gw PA PM H H') (h : SqT K H a xs) : SqT K H' a xs := by
  rcases h with (h | ⟨o, h⟩) | h
  · exact .inl (.inl (e.keep _ _ h fun ps z => by cases z))
  · exact .inl (.inr ⟨o, e.keep _ _ h fun ps z => by cases z⟩)
  · exact .inr h
theorem sqL_gw {a : Addr} {xs : List V} (e : Gw PA PM H H') (h : SqL K H a xs) : SqL K H' a xs := by
  rcases h with (h | ⟨o, h⟩) | h
  · exact .inl (.inl (e.keep _ _ h fun ps z => by cases z))
  · exact .inl (.inr ⟨o, e.keep _ _ h fun ps z => by cases z⟩)
  · exact .inr h
end

/-! ### numbers as values -/
def vN (l : List Nat) : List V := l.map fun n : Nat => V.int (n : Int)
theorem vN_len (l : List Nat) : (vN l).length = l.length := by unfold vN; rw [List.length_map]
theorem vN_get {l : List Nat} {i n : Nat} (h : l[i]? = some n) : (vN l)[i]? = some (V.int n) := by unfold vN; rw [List.getElem?_map, h]; rfl
theorem vN_of {l : List Nat} {i : Nat} {x : V} (h : (vN l)[i]? = some x) : ∃ n, l[i]? = some n ∧ x = V.int n := by
  unfold vN at h
  rw [List.getElem?_map] at h
  cases e : l[i]? with
  | none => rw [e] at h; cases h
  | some n => rw [e] at h; exact ⟨n, rfl, (Option.some.inj h).symm⟩
theorem vN_app (l m : List Nat) : vN l ++ vN m = vN (l ++ m) := by unfold vN; rw [List.map_append]
theorem vN_ints (l : List Nat) : vN l = (l.map fun n : Nat => (n : Int)).map V.int := by unfold vN; rw [List.map_map]; rfl
theorem vN_flat (l : List Nat) : (vN l).all flatV = true := by
  rw [List.all_eq_true]
  intro x hx
  unfold vN at hx
  obtain ⟨n, _, rfl⟩ := List.mem_map.mp hx
  rfl
theorem vN_in (a : Nat) (l : List Nat) : inV (V.int a) (vN l) = decide (a ∈ l) := by
  rw [Bool.eq_iff_iff, decide_eq_true_iff]
  unfold inV vN
  rw [List.any_eq_true]
  constructor
  · rintro ⟨x, hx, e⟩
    obtain ⟨n, hn, rfl⟩ := List.mem_map.mp hx
    have e' : ((n : Int) == (a : Int)) = true := e
    have e2 : (n : Int) = a := by simpa using e'
    have : n = a := by omega
    rw [← this]; exact hn
  · intro h
    refine ⟨V.int a, List.mem_map.mpr ⟨a, h, rfl⟩, ?_⟩
    show ((a : Int) == (a : Int)) = true
    simp
theorem take_succ {α : Type} {l : List α} {i : Nat} {x : α} (h : l[i]? = some x) : l.take (i + 1) = l.take i ++ [x] := by
  rw [List.take_add_one, h]
  rfl
/-- a map's object -/
structure ChAt (K : PySem.W.Frag) (H : Hp) (a c : Addr) (arms : Nat) (cells : List Nat) : Prop where
  t : SqT K H a [.int arms, .ref c]
  c : SqT K H c (vN cells)
theorem ChAt.gw {PA PM : Addr} {K : PySem.W.Frag} {H H' : Hp} {a c : Addr} {arms : Nat} {cells : List Nat} (e : Gw PA PM H H') (h : ChAt K H a c arms cells) : ChAt K H' a c arms cells := ⟨sqT_gw e h.t, sqT_gw e h.c⟩
theorem ChAt.same {K : PySem.W.Frag} {H H' : Hp} {a c : Addr} {arms : Nat} {cells : List Nat} (e : Same H H') (h : ChAt K H a c arms cells) : ChAt K H' a c arms cells := ⟨sqT_same e h.t, sqT_same e h.c⟩
end SK
end

section
/-! Operators upon natural numbers; small words. -/
namespace SK
open PySem PySem.Spec PyProof.Rows L2 GxR SKG SKR
theorem ifT {c : Bool} {A B : Prop} (e : c = true) (h : A) : if c = true then A else B := by
  rw [if_pos e]
  exact h
theorem ifF {c : Bool} {A B : Prop} (e : c = false) (h : B) : if c = true then A else B := by
  rw [e, if_neg Bool.false_ne_true]
  exact h
theorem yesT {σ : L2.St} {H : Hp} {F G : Hp → Prop} (h : F H) : tYes σ H (fun b H3 => if b = true then F H3 else G H3) := by
  show if true = true then F H else G H
  exact iteT h
theorem same_at {H H' : Hp} {p : Addr} {o : HO} (hp : H p = none) (e : Same H H') : Same H (upd H' p o) := fun b u h => by
  rw [upd_ne (ne_of_none h hp)]
  exact e b u h
theorem nat_fmod {a b : Nat} (hb : b ≠ 0) : ((a : Int)).fmod (b : Int) = ((a % b : Nat) : Int) := by
  rw [Int.fmod_eq_emod_of_nonneg _ (by omega)]
  exact Int.natCast_emod a b |>.symm
theorem nat_fdiv {a b : Nat} : ((a : Int)).fdiv (b : Int) = ((a / b : Nat) : Int) := by
  rw [Int.fdiv_eq_ediv_of_nonneg _ (by omega)]
  exact Int.natCast_ediv a b |>.symm
theorem line_lt {n : Nat} (h : n ≤ 1000000) : n < sizeLine := by rw [sizeLine_eq]; omega
theorem line_le {n : Nat} (h : n ≤ 1000000) : n ≤ sizeLine := by rw [sizeLine_eq]; omega
theorem OpR.mono {X : Cx} {fn : Value → Value → Sem Value} {r r' : R2} (h : OpR X fn r) (i : ∀ x y H Q, r' x y H Q → r x y H Q) : OpR X fn r' := fun pins s σ H x y v u Q I rx ry q => h pins s σ H x y v u Q I rx ry (i x y H Q q)
def rK (C : Nat → Nat → Prop) (g : Nat → Nat → V) : R2 := fun x y H Q => ∃ a b : Nat, x = .int a ∧ y = .int b ∧ C a b ∧ Q (g a b) H
def rK0 (g : Nat → Nat → V) : R2 := fun x y H Q => ∃ a b : Nat, x = .int a ∧ y = .int b ∧ Q (g a b) H
section
variable {X : Cx}
theorem pn (n : Nat) {j pos} : PE X (.Constant (.int (n : Int)) j pos) (tC (.int (n : Int))) := pe_int
theorem addK : OpR X (binaryOp .Add) (rK0 fun a b => .int ((a + b : Nat) : Int)) := OpR.mono op_add fun x y H Q h => by
  obtain ⟨a, b, rfl, rfl, q⟩ := h
  refine ⟨_, _, rfl, rfl, ?_⟩
  show Q (.int ((a : Int) + (b : Int))) H
  rw [← Int.natCast_add]
  exact q
theorem subK : OpR X (binaryOp .Sub) (rK (fun a b => b ≤ a) fun a b => .int ((a - b : Nat) : Int)) := OpR.mono op_sub fun x y H Q h => by
  obtain ⟨a, b, rfl, rfl, c, q⟩ := h
  refine ⟨_, _, rfl, rfl, ?_⟩
  show Q (.int ((a : Int) - (b : Int))) H
  rw [← Int.natCast_sub c]
  exact q
theorem mulK : OpR X (binaryOp .Mult) (rK (fun a _ => a < 2 ^ 64) fun a b => .int ((a * b : Nat) : Int)) := OpR.mono op_mul fun x y H Q h => by
  obtain ⟨a, b, rfl, rfl, c, q⟩ := h
  have c : a < 2 ^ 64 := c
  refine ⟨_, _, rfl, rfl, .inl ⟨by omega, by omega⟩, ?_⟩
  show Q (.int ((a : Int) * (b : Int))) H
  rw [← Int.natCast_mul]
  exact q
theorem modK : OpR X (binaryOp .Mod) (rK (fun _ b => b ≠ 0) fun a b => .int ((a % b : Nat) : Int)) := OpR.mono op_modN fun x y H Q h => by
  obtain ⟨a, b, rfl, rfl, c, q⟩ := h
  have c : b ≠ 0 := c
  refine ⟨_, _, rfl, rfl, (by show (b : Int) ≠ 0; omega), ?_⟩
  show Q (.int ((a : Int).fmod (b : Int))) H
  rw [nat_fmod c]
  exact q
theorem divK : OpR X (binaryOp .FloorDiv) (rK (fun _ b => b ≠ 0 ∧ b < 1073741824) fun a b => .int ((a / b : Nat) : Int)) := OpR.mono op_fdivN fun x y H Q h => by
  obtain ⟨a, b, rfl, rfl, ⟨c, d⟩, q⟩ := h
  refine ⟨_, _, rfl, rfl, ⟨by omega, by omega⟩, ?_⟩
  show Q (.int ((a : Int).fdiv (b : Int))) H
  rw [nat_fdiv]
  exact q
theorem dec_congr {p q : Prop} [Decidable p] [Decidable q] (h : p ↔ q) : decide p = decide q := by
  by_cases hp : p
  · rw [decide_eq_true hp, decide_eq_true (h.mp hp)]
  · rw [decide_eq_false hp, decide_eq_false fun z => hp (h.mpr z)]
theorem ltK : OpR X (compareOp .Lt) (rK0 fun a b => .bl (decide (a < b))) := OpR.mono op_lt fun x y H Q h => by
  obtain ⟨a, b, rfl, rfl, q⟩ := h
  refine ⟨_, _, rfl, rfl, ?_⟩
  show Q (.bl (decide ((a : Int) < (b : Int)))) H
  rw [dec_congr (show ((a : Int) < (b : Int)) ↔ a < b by omega)]
  exact q
theorem leK : OpR X (compareOp .LtE) (rK0 fun a b => .bl (decide (a ≤ b))) := OpR.mono op_le fun x y H Q h => by
  obtain ⟨a, b, rfl, rfl, q⟩ := h
  refine ⟨_, _, rfl, rfl, ?_⟩
  show Q (.bl (decide ((a : Int) ≤ (b : Int)))) H
  rw [dec_congr (show ((a : Int) ≤ (b : Int)) ↔ a ≤ b by omega)]
  exact q
theorem gtK : OpR X (compareOp .Gt) (rK0 fun a b => .bl (decide (b < a))) := OpR.mono op_gt fun x y H Q h => by
  obtain ⟨a, b, rfl, rfl, q⟩ := h
  refine ⟨_, _, rfl, rfl, ?_⟩
  show Q (.bl (decide ((b : Int) < (a : Int)))) H
  rw [dec_congr (show ((b : Int) < (a : Int)) ↔ b < a by omega)]
  exact q
theorem eqK : OpR X (compareOp .Eq) (rK0 fun a b => .bl (decide (a = b))) := OpR.mono op_eq fun x y H Q h => by
  obtain ⟨a, b, rfl, rfl, q⟩ := h
  refine ⟨rfl, ?_⟩
  show Q (.bl (decide (V.int (a : Int) = V.int (b : Int)))) H
  rw [dec_congr (show (V.int (a : Int) = V.int (b : Int)) ↔ a = b from ⟨fun z => by have := V.int.inj z; omega, fun z => by rw [z]⟩)]
  exact q
theorem neK : OpR X (compareOp .NotEq) (rK0 fun a b => .bl (!decide (a = b))) := OpR.mono op_ne fun x y H Q h => by
  obtain ⟨a, b, rfl, rfl, q⟩ := h
  refine ⟨rfl, ?_⟩
  show Q (.bl (!decide (V.int (a : Int) = V.int (b : Int)))) H
  rw [dec_congr (show (V.int (a : Int) = V.int (b : Int)) ↔ a = b from ⟨fun z => by have := V.int.inj z; omega, fun z => by rw [z]⟩)]
  exact q
end
end SK
end

section
namespace SK
open PySem PySem.Spec PyProof.Rows L2 GxR SKG SKR
theorem bt_isi : bootBuiltins "isinstance" = some (.builtin "isinstance") := by decide +kernel
theorem bt_int : bootBuiltins "int" = some (.type "int") := by decide +kernel
theorem bt_bool : bootBuiltins "bool" = some (.type "bool") := by decide +kernel
theorem bt_tuple : bootBuiltins "tuple" = some (.type "tuple") := by decide +kernel
theorem bt_list : bootBuiltins "list" = some (.type "list") := by decide +kernel
theorem bt_str : bootBuiltins "str" = some (.type "str") := by decide +kernel
theorem bt_len : bootBuiltins "len" = some (.builtin "len") := by decide +kernel
theorem bt_max : bootBuiltins "max" = some (.builtin "max") := by decide +kernel
theorem bt_all : bootBuiltins "all" = some (.builtin "all") := by decide +kernel
theorem bt_sorted : bootBuiltins "sorted" = some (.builtin "sorted") := by decide +kernel
section
variable {P : Program} {w : World} {K : PySem.W.Frag} {mg : Str → Option Value} {base : Heap} {f : Addr} {fd : FuncData}

/-! ### is_in -/
def spIsIn : Sp := fun vs H Q _ => ∃ v lo hi : Int, vs = [.int v, .int lo, .int hi] ∧ Q (.bl (decide (lo ≤ v) && decide (v ≤ hi))) H
theorem scIsIn : FnScope ["value", "least", "most"] ["value", "least", "most"] (defScope sIsIn) := ⟨rfl, rfl, rfl, by decide +kernel, rfl, by decide +kernel, by decide +kernel⟩
theorem ok_isIn (F : Fun K "is_in" "is_in" sIsIn f fd) (T : Txt mg) : FnOk P w K mg base CX0 1 f fd ["value", "least", "most"] spIsIn := by
  refine F.ok scIsIn (fun vs H Q E h => ?_) (fun cdv A outer s H vs Q E hr h => ?_)
  · obtain ⟨_, _, _, rfl, _⟩ := h
    rfl
  obtain ⟨v, lo, hi, rfl, kQ⟩ := h
  refine ⟨_, pss_one (ps_ret (pe_and (pe_callB call_isi (by rfl) T.isi bt_isi (pa_cons (pv 0) (pa_cons (pe_bltn (v := .ty "int") (by rfl) T.int bt_int rfl) pa_nil)))
    (pe_and (pe_not (pe_callB call_isi (by rfl) T.isi bt_isi (pa_cons (pv 0) (pa_cons (pe_bltn (v := .ty "bool") (by rfl) T.bool bt_bool rfl) pa_nil))))
      (pe_one (pe_chain op_le op_le (pv 1) (pv 0) (pv 2)))))), ?_⟩
  refine ⟨_, rfl, _, _, _, _, true, rfl, .ty "int", .base (.int v), kit_ty (by decide +kernel), _, rfl, ?_⟩
  refine iteT ⟨_, rfl, _, _, _, _, false, rfl, .ty "bool", .base (.int v), kit_ty (by decide +kernel), _, rfl, _, rfl, ?_⟩
  refine iteT ⟨_, rfl, _, rfl, _, _, rfl, rfl, _, rfl, ?_⟩
  by_cases h1 : lo ≤ v
  · rw [decide_eq_true h1]
    rw [decide_eq_true h1] at kQ
    exact iteT ⟨_, rfl, _, _, rfl, rfl, kQ⟩
  · rw [decide_eq_false h1]
    rw [decide_eq_false h1] at kQ
    exact iteF kQ

/-! ### near -/
def spNear : Sp := fun vs H Q _ => ∃ arms len cell : Nat, vs = [.int arms, .int len, .int cell] ∧ 1 ≤ len ∧ len ≤ 1000 ∧ arms ≤ 1000 ∧ ∀ H' p, Same H H' → H p = none → H' p = some (.lst (vN (nearN arms len cell))) → Q (.ref p) H'
theorem scNear : FnScope ["arms", "length", "cell", "step", "found", "arm"] ["arms", "length", "cell"] (defScope sNear) := ⟨rfl, rfl, rfl, by decide +kernel, rfl, by decide +kernel, by decide +kernel⟩
theorem ok_near (F : Fun K "near" "near" sNear f fd) (T : Txt mg) : FnOk P w K mg base CX0 1 f fd ["arms", "length", "cell"] spNear := by
  refine F.ok scNear (fun vs H Q E h => ?_) (fun cdv A outer s H vs Q E hr h => ?_)
  · obtain ⟨_, _, _, rfl, _⟩ := h
    rfl
  obtain ⟨arms, len, cell, rfl, hl1, hl2, ha, kQ⟩ := h
  refine ⟨_, pss_cons (ps_if (pt_cmpR eqK (pv 2) (pn 0) (nomark _))
      (pss_one (ps_ret (pe_lc (own := [("arm", 5)]) (g := gName 5) (tt := tYes) rfl scNear.nd (pi_range1 rfl T.range (pa_cons (pv 0) pa_nil)) (blkOk_by (N := ["arms", "length", "cell", "step", "found", "arm"]) (sc := defScope sNear) (by decide +kernel))
        (fun _ _ _ _ _ => pg_name (i := 5) scNear.nd rfl (Or.inl rfl)) (fun _ _ _ _ _ => pts_nil) (fun _ _ _ _ _ => pe_op addK (pn 1) (pe_op mulK (pv 5) (pv 1)))))) pss_nil)
    (pss_cons (ps_set (i := 3) scNear.nd rfl (Or.inl rfl) (pe_op modK (pe_op subK (pv 2) (pn 1)) (pv 1)))
    (pss_cons (ps_set (i := 4) scNear.nd rfl (Or.inl rfl) (pe_lst (pa_cons (pe_ifExp (pt_truth (pv 3) (by intro _; rfl)) (pe_op subK (pv 2) (pn 1)) (pn 0)) pa_nil)))
    (pss_cons (ps_if (pt_cmpR ltK (pe_op addK (pv 3) (pn 1)) (pv 1) (nomark _))
      (pss_one (ps_expr (pe_bm PySem.F.plainAttrs_list PySem.F.slot_list_append PySem.F.type_list_append mt_append (pv 4) (pa_cons (pe_op addK (pv 2) (pn 1)) pa_nil)))) pss_nil)
    (pss_one (ps_ret (pv 4)))))), ?_⟩
  refine ⟨_, rfl, cell, 0, rfl, rfl, _, rfl, ?_⟩
  by_cases hc : cell = 0
  · subst hc
    refine ifT rfl ?_
    refine ⟨_, rfl, _, rfl, by omega, by omega, fun D hD => lc_range (lo := 0) (n := (arms : Int).toNat) (fun i H' => Same H H' ∧ H' D = some (.lst (vN ((List.range i).map fun a => 1 + a * len)))) ?_ ?_ ?_⟩
    · exact ⟨same_new hD, upd_same⟩
    · rintro i H' hi ⟨s1, hH⟩
      rw [Int.zero_add]
      refine ⟨rfl, yesT ?_⟩
      refine ⟨_, rfl, _, rfl, i, len, rfl, rfl, (by omega : i < 2 ^ 64), 1, _, rfl, rfl, _, hH, ?_, same_at hD s1, ?_⟩
      · rw [vN_len, List.length_map, List.length_range]
        exact line_lt (by omega)
      · rw [upd_same, List.range_succ, List.map_append, ← vN_app]
        rfl
    · rintro H' ⟨s1, hH⟩
      refine kQ H' D s1 hD ?_
      rw [hH]
      have e : (arms : Int).toNat = arms := by omega
      rw [e]
      rfl
  · refine ifF (decide_eq_false hc) ?_
    refine ⟨_, rfl, cell, 1, rfl, rfl, (by omega : 1 ≤ cell), _, rfl, _, _, rfl, rfl, (by omega : len ≠ 0), ?_⟩
    have sn : ∀ (x : Nat) (p : Addr), H p = none → ∀ H', Same H H' → H' p = some (.lst [V.int (x : Int)]) → x = (if (cell - 1) % len = 0 then 0 else cell - 1) → ((cell - 1) % len + 1 < len → Q (.ref p) (upd H' p (.lst [V.int (x : Int), V.int ((cell + 1 : Nat) : Int)]))) ∧ (¬ (cell - 1) % len + 1 < len → Q (.ref p) H') := by
      intro x p hp H' s1 hH hx
      refine ⟨fun h => kQ _ p (same_at hp s1) hp ?_, fun h => kQ _ p s1 hp ?_⟩
      · rw [upd_same]
        unfold nearN
        rw [if_neg hc, if_pos h, ← hx]
        rfl
      · rw [hH]
        unfold nearN
        rw [if_neg hc, if_neg h, ← hx]
        rfl
    by_cases h0 : (cell - 1) % len = 0
    · refine ⟨_, rfl, false, (by show false = ((((cell - 1) % len : Nat) : Int) != 0); rw [h0]; rfl), iteF ⟨(by show 1 ≤ sizeLine; exact line_le (by decide)), fun p hp => ?_⟩⟩
      have hq := sn 0 p hp _ (same_new hp) upd_same (by rw [if_pos h0])
      refine ⟨_, rfl, _, _, rfl, rfl, _, rfl, _, _, rfl, rfl, _, rfl, ?_⟩
      by_cases h1 : (cell - 1) % len + 1 < len
      · refine ifT (decide_eq_true h1) ?_
        refine ⟨_, rfl, .inl ⟨rfl, _, .inl (.inl upd_same)⟩, _, rfl, _, _, rfl, rfl, _, _, _, rfl, rfl, upd_same, (by show 1 < sizeLine; exact line_lt (by decide)), ?_⟩
        exact ⟨_, rfl, hq.1 h1⟩
      · refine ifF (decide_eq_false h1) ?_
        exact ⟨_, rfl, hq.2 h1⟩
    · refine ⟨_, rfl, true, (by show true = ((((cell - 1) % len : Nat) : Int) != 0); symm; simp; omega), iteT ⟨_, rfl, _, _, rfl, rfl, (by omega : 1 ≤ cell), (by show 1 ≤ sizeLine; exact line_le (by decide)), fun p hp => ?_⟩⟩
      have hq := sn (cell - 1) p hp _ (same_new hp) upd_same (by rw [if_neg h0])
      refine ⟨_, rfl, _, _, rfl, rfl, _, rfl, _, _, rfl, rfl, _, rfl, ?_⟩
      by_cases h1 : (cell - 1) % len + 1 < len
      · refine ifT (decide_eq_true h1) ?_
        refine ⟨_, rfl, .inl ⟨rfl, _, .inl (.inl upd_same)⟩, _, rfl, _, _, rfl, rfl, _, _, _, rfl, rfl, upd_same, (by show 1 < sizeLine; exact line_lt (by decide)), ?_⟩
        exact ⟨_, rfl, hq.1 h1⟩
      · refine ifF (decide_eq_false h1) ?_
        exact ⟨_, rfl, hq.2 h1⟩
end
end SK
end

section
namespace SK
open PySem PySem.Spec PyProof.Rows L2 GxR SKG SKR
section
variable {P : Program} {w : World} {K : PySem.W.Frag} {mg : Str → Option Value} {base : Heap} {f : Addr} {fd : FuncData}

/-! ### length_of -/
def spLenOf (K : PySem.W.Frag) : Sp := fun vs H Q _ => ∃ (a c : Addr) (arms len : Nat) (cells : List Nat), vs = [.ref a] ∧ ChAt K H a c arms cells ∧ Isl arms len ∧ cells.length = arms * len + 1 ∧ Q (.int (len : Nat)) H
theorem scLenOf : FnScope ["chart"] ["chart"] (defScope sLenOf) := ⟨rfl, rfl, rfl, by decide +kernel, rfl, by decide +kernel, by decide +kernel⟩
theorem isl_div {arms len : Nat} (I : Isl arms len) : (arms * len + 1 - 1) / arms = len := by
  have h : 0 < arms := by rcases I.a with e | e <;> omega
  rw [Nat.add_sub_cancel]
  exact Nat.mul_div_cancel_left len h
theorem ok_lenOf (F : Fun K "length_of" "length_of" sLenOf f fd) (T : Txt mg) : FnOk P w K mg base CX0 1 f fd ["chart"] (spLenOf K) := by
  refine F.ok scLenOf (fun vs H Q E h => ?_) (fun cdv A outer s H vs Q E hr h => ?_)
  · obtain ⟨_, _, _, _, _, rfl, _⟩ := h
    rfl
  obtain ⟨a, c, arms, len, cells, rfl, C, I, hz, kQ⟩ := h
  refine ⟨_, pss_one (ps_ret (pe_op divK (pe_op subK (pe_callB call_len_seq (by rfl) T.len bt_len (pa_cons (pe_ix ix_tup (pv 0) (pn 1) (fun _ _ => rfl)) pa_nil)) (pn 1)) (pe_ix ix_tup (pv 0) (pn 0) (fun _ _ => rfl)))), ?_⟩
  have ha : arms ≠ 0 := by rcases I.a with e | e <;> omega
  refine ⟨_, rfl, _, _, _, _, rfl, rfl, C.t, atI_nat (j := 1) rfl, _, _, rfl, .inr C.c, _, _, rfl, rfl, ?_, _, rfl, _, _, _, _, rfl, rfl, C.t, atI_nat (j := 0) rfl, _, _, rfl, rfl, ⟨ha, by rcases I.a with e | e <;> omega⟩, ?_⟩
  · show 1 ≤ (vN cells).length
    rw [vN_len, hz]
    omega
  · show Q (.int ((((vN cells).length - 1) / arms : Nat) : Int)) H
    rw [vN_len, hz, isl_div I]
    exact kQ

/-! ### held -/
def spHeld (K : PySem.W.Frag) : Sp := fun vs H Q _ => ∃ (c : Addr) (cells : List Nat) (land : Nat), vs = [.ref c, .int land] ∧ SqT K H c (vN cells) ∧ cells.length ≤ 1000 ∧
  ∀ H' p, Same H H' → H p = none → H' p = some (.lst (vN (heldN cells land))) → Q (.ref p) H'
theorem scHeld : FnScope ["cells", "land", "cell", "one"] ["cells", "land"] (defScope sHeld) := ⟨rfl, rfl, rfl, by decide +kernel, rfl, by decide +kernel, by decide +kernel⟩
theorem ok_held (F : Fun K "held" "held" sHeld f fd) (T : Txt mg) : FnOk P w K mg base CX0 1 f fd ["cells", "land"] (spHeld K) := by
  refine F.ok scHeld (fun vs H Q E h => ?_) (fun cdv A outer s H vs Q E hr h => ?_)
  · obtain ⟨_, _, _, rfl, _⟩ := h
    rfl
  obtain ⟨c, cells, land, rfl, C, hz, kQ⟩ := h
  refine ⟨_, pss_one (ps_ret (pe_lc (own := [("cell", 2), ("one", 3)]) (g := gTup K 2 (gCons (gName 2) (gCons (gName 3) gNil))) rfl scHeld.nd (pi_enumT rfl T.enum (pa_cons (pv 0) pa_nil)) (blkOk_by (N := ["cells", "land", "cell", "one"]) (sc := defScope sHeld) (by decide +kernel))
        (fun _ _ _ _ _ => pg_tup rfl (pgs_cons (pg_name (i := 2) scHeld.nd rfl (Or.inl rfl)) (pgs_cons (pg_name (i := 3) scHeld.nd rfl (Or.inl rfl)) pgs_nil))) (fun _ _ _ _ _ => pts_one (pt_cmpR eqK (pv 3) (pv 1) (nomark _))) (fun _ _ _ _ _ => pv 2))), ?_⟩
  refine ⟨_, rfl, c, vN cells, rfl, C, fun D hD => lc_it (walk_enumT (xs := vN cells)) (fun i H' => Same H H' ∧ H' D = some (.lst (vN ((List.range i).filter fun x => decide (at0 cells x = land))))) ⟨same_new hD, upd_same⟩ (fun i H' _ h => sqT_same h.1 C) ?_ ?_⟩
  · rintro i v H1 H' hi ⟨s1, hH⟩ ⟨t, x, y, rfl, ht, rfl, hx, hy⟩
    cases hx
    obtain ⟨n, hn, rfl⟩ := vN_of hy
    have nD : D ≠ t := ne_of_none hH ht
    have ea : at0 cells i = n := at0_of hn
    refine ⟨t, _, rfl, .inl (.inl upd_same), rfl, _, _, rfl, _, _, rfl, rfl, rfl, _, rfl, _, rfl, n, land, rfl, rfl, _, rfl, ?_⟩
    have hD1 : upd H1 t (.tup [.int (i : Nat), V.int n]) D = some (.lst (vN ((List.range i).filter fun x => decide (at0 cells x = land)))) := by
      rw [upd_ne nD]
      exact hH
    have s2 : Same H (upd H1 t (.tup [.int (i : Nat), V.int n])) := fun b o e => by
      rw [upd_ne (ne_of_none (s1 b o e) ht)]
      exact s1 b o e
    have er : (List.range (i + 1)).filter (fun x => decide (at0 cells x = land)) = (List.range i).filter (fun x => decide (at0 cells x = land)) ++ (if n = land then [i] else []) := by
      rw [List.range_succ, List.filter_append]
      by_cases h : n = land <;> simp [h, ea]
    rw [er]
    by_cases h : n = land
    · refine ifT (decide_eq_true h) ?_
      refine ⟨_, rfl, _, hD1, ?_, same_at hD s2, ?_⟩
      · rw [vN_len]
        refine line_lt (Nat.le_trans (List.length_filter_le _ _) ?_)
        rw [List.length_range]
        rw [vN_len] at hi
        omega
      · rw [upd_same, if_pos h, ← vN_app]
        rfl
    · refine ifF (decide_eq_false h) ⟨s2, ?_⟩
      rw [hD1, if_neg h, List.append_nil]
  · rintro H' ⟨s1, hH⟩
    refine kQ H' D s1 hD ?_
    rw [hH, vN_len]
    rfl

/-! ### lands_of -/
def spLandsOf (K : PySem.W.Frag) : Sp := fun vs H Q _ => ∃ (a c : Addr) (arms len lands : Nat) (cells : List Nat), vs = [.ref a] ∧ ChAt K H a c arms cells ∧ Good arms len lands cells ∧ Q (.int (lands : Nat)) H
theorem scLandsOf : FnScope ["chart"] ["chart"] (defScope sLandsOf) := ⟨rfl, rfl, rfl, by decide +kernel, rfl, by decide +kernel, by decide +kernel⟩
theorem Good.max {arms len lands : Nat} {cells : List Nat} (G : Good arms len lands cells) {m : Int} (h1 : m ∈ cells.map fun n : Nat => (n : Int)) (h2 : ∀ y, y ∈ (cells.map fun n : Nat => (n : Int)) → y ≤ m) : m = ((lands - 1 : Nat) : Int) := by
  obtain ⟨n, hn, rfl⟩ := List.mem_map.mp h1
  have hlt := G.lt n hn
  have hl2 := G.l2
  obtain ⟨c, hc, e⟩ := G.some (l := lands - 1) (by omega)
  have hc' : c < cells.length := by rw [G.sz]; exact hc
  have q := h2 ((lands - 1 : Nat) : Int) (List.mem_map.mpr ⟨lands - 1, by rw [← e]; exact List.mem_of_getElem? (get_at0 hc'), rfl⟩)
  omega
theorem ok_landsOf (F : Fun K "lands_of" "lands_of" sLandsOf f fd) (T : Txt mg) : FnOk P w K mg base CX0 1 f fd ["chart"] (spLandsOf K) := by
  refine F.ok scLandsOf (fun vs H Q E h => ?_) (fun cdv A outer s H vs Q E hr h => ?_)
  · obtain ⟨_, _, _, _, _, _, rfl, _⟩ := h
    rfl
  obtain ⟨a, c, arms, len, lands, cells, rfl, C, G, kQ⟩ := h
  refine ⟨_, pss_one (ps_ret (pe_op addK (pe_callB (cr_maxT rfl) (by rfl) T.max bt_max (pa_cons (pe_ix ix_tup (pv 0) (pn 1) (fun _ _ => rfl)) pa_nil)) (pn 1))), ?_⟩
  refine ⟨_, rfl, _, _, _, _, rfl, rfl, C.t, atI_nat (j := 1) rfl, c, cells.map fun n : Nat => (n : Int), rfl, by rw [← vN_ints]; exact C.c, ?_, fun m h1 h2 => ?_⟩
  · rw [List.length_map, G.sz]
    omega
  · refine ⟨lands - 1, 1, ?_, rfl, ?_⟩
    · rw [G.max h1 h2]
    · show Q (.int ((lands - 1 + 1 : Nat) : Int)) H
      have e : lands - 1 + 1 = lands := by have := G.l2; omega
      rw [e]
      exact kQ

/-! ### hangs -/
def spHangs (K : PySem.W.Frag) : Sp := fun vs H Q _ => ∃ (c s : Addr) (arms len : Nat) (xs : List V) (l : List Nat), vs = [.int arms, .ref c, .ref s] ∧ SqT K H c xs ∧ xs.length = arms * len + 1 ∧ Isl arms len ∧ SqL K H s (vN l) ∧ l.Nodup ∧ (∀ x ∈ l, x < arms * len + 1) ∧
  ∀ H', Same H H' → Q (.bl (dec (Conn (nearN arms len) l))) H'
theorem scHangs : FnScope ["arms", "cells", "some", "length", "found", "rows", "more", "cell", "other"] ["arms", "cells", "some"] (defScope sHangs) := ⟨rfl, rfl, rfl, by decide +kernel, rfl, by decide +kernel, by decide +kernel⟩
theorem isl_small {arms len : Nat} (I : Isl arms len) : arms * len + 1 ≤ 17 := by
  have h1 := I.l4
  rcases I.a with e | e <;> subst e <;> omega
theorem lt_len {l : List Nat} {n : Nat} (nd : l.Nodup) (h : ∀ x ∈ l, x < n) : l.length ≤ n := by
  have := nodup_len l (List.range n) nd fun x hx => List.mem_range.mpr (h x hx)
  rw [List.length_range] at this
  exact this
def HgW (K : PySem.W.Frag) (H : Hp) (c sm : Addr) (arms len : Nat) (l : List Nat) (m : Nat) (σ : L2.St) (H' : Hp) : Prop :=
  ∃ (pf pr : Addr) (found rows : List Nat) (v6 v7 v8 : Option V), σ = [some (.int arms), some (.ref c), some (.ref sm), some (.int len), some (.ref pf), some (.ref pr), v6, v7, v8] ∧ Same H H' ∧ H pf = none ∧ pf ≠ pr ∧
    H' pf = some (.lst (vN found)) ∧ H' pr = some (.lst (vN rows)) ∧ BInv (nearN arms len) l found rows ∧ m = bms l found rows
theorem ok_hangs (F : Fun K "hangs" "hangs" sHangs f fd) (T : Txt mg) (N : Dn P w K mg base CX0 1 "near" ["arms", "length", "cell"] spNear) : FnOk P w K mg base CX0 2 f fd ["arms", "cells", "some"] (spHangs K) := by
  refine F.ok scHangs (fun vs H Q E h => ?_) (fun cdv A outer s H vs Q E hr h => ?_)
  · obtain ⟨_, _, _, _, _, _, rfl, _⟩ := h
    rfl
  obtain ⟨c, sm, arms, len, xs, l, rfl, C, hz, I, S, lnd, llt, kQ⟩ := h
  refine ⟨_, pss_cons (ps_if (pt_not (pt_truth (pv 2) (by intro _; rfl))) (pss_one (ps_ret pe_bl)) pss_nil)
    (pss_cons (ps_par3 (i := 3) (j := 4) (l := 5) rfl scHangs.nd rfl rfl rfl (by decide) (by decide) (by decide) rfl rfl rfl
      (pa_cons (pe_op divK (pe_op subK (pe_callB call_len_seq (by rfl) T.len bt_len (pa_cons (pv 1) pa_nil)) (pn 1)) (pv 0))
        (pa_cons (pe_lst (pa_cons (pe_ix ix_list (pv 2) (pn 0) (fun _ _ => rfl)) pa_nil)) (pa_cons (pe_lst (pa_cons (pe_ix ix_list (pv 2) (pn 0) (fun _ _ => rfl)) pa_nil)) pa_nil))) (by rfl))
    (pss_cons (ps_while PassesOwn.never (pt_truth (pv 5) (by intro _; rfl))
      (pss_cons (ps_set (i := 6) scHangs.nd rfl (Or.inl rfl) (pe_lst pa_nil))
      (pss_cons (ps_for PassesOwn.never rfl (pi_list (pv 5)) (pg_name (i := 7) scHangs.nd rfl (Or.inl rfl))
        (pss_one (ps_for PassesOwn.never rfl (pi_list (pe_d N hr (pa_cons (pv 0) (pa_cons (pv 3) (pa_cons (pv 7) pa_nil))))) (pg_name (i := 8) scHangs.nd rfl (Or.inl rfl))
          (pss_one (ps_if (PW.pt (pw_and (pt_cmpR op_in_seq (pv 8) (pv 2) (by rfl)) (pw_and1 (pt_cmpR op_notIn_seq (pv 8) (pv 4) (by rfl)))))
            (pss_cons (ps_expr (pe_bm PySem.F.plainAttrs_list PySem.F.slot_list_append PySem.F.type_list_append mt_append (pv 4) (pa_cons (pv 8) pa_nil)))
              (pss_one (ps_expr (pe_bm PySem.F.plainAttrs_list PySem.F.slot_list_append PySem.F.type_list_append mt_append (pv 6) (pa_cons (pv 8) pa_nil))))) pss_nil)))))
      (pss_one (ps_set (i := 5) scHangs.nd rfl (Or.inl rfl) (pv 6))))))
    (pss_one (ps_ret (pe_cmpR eqK (pe_callB call_len_seq (by rfl) T.len bt_len (pa_cons (pv 4) pa_nil)) (pe_callB call_len_seq (by rfl) T.len bt_len (pa_cons (pv 2) pa_nil)) (nomark _)))))), ?_⟩
  have ha : arms ≠ 0 := by rcases I.a with e | e <;> omega
  have ha9 : arms ≤ 1000 := by rcases I.a with e | e <;> omega
  have hl9 : len ≤ 1000 := by have := I.l4; omega
  have ed : (xs.length - 1) / arms = len := by rw [hz]; exact isl_div I
  have hll : l.length ≤ 17 := Nat.le_trans (lt_len lnd llt) (isl_small I)
  by_cases hl : l = []
  · refine ⟨_, rfl, false, .inl ⟨vN l, S, by rw [hl]; rfl⟩, ifT rfl ?_⟩
    have q := kQ H (Same.refl H)
    rw [dec_false (fun h => h.1 hl)] at q
    exact q
  obtain ⟨h0, hh0⟩ : ∃ h0, l.head? = some h0 := by
    cases l with
    | nil => exact absurd rfl hl
    | cons a t => exact ⟨a, rfl⟩
  have hg0 : l[0]? = some h0 := by rw [← List.head?_eq_getElem?]; exact hh0
  refine ⟨_, rfl, true, .inl ⟨vN l, S, ?_⟩, ifF rfl ?_⟩
  · cases l with
    | nil => exact absurd rfl hl
    | cons a t => rfl
  refine ⟨_, rfl, _, _, rfl, .inr C, _, _, rfl, rfl, (by omega : 1 ≤ xs.length), _, rfl, _, _, rfl, rfl, ⟨ha, by omega⟩, _, rfl, _, _, _, _, rfl, rfl, S, atI_nat (j := 0) (vN_get hg0), (by show 1 ≤ sizeLine; exact line_le (by decide)), fun pf hpf => ?_⟩
  have S1 : SqL K (upd H pf (.lst [V.int h0])) sm (vN l) := (same_new hpf).seq S
  refine ⟨_, rfl, _, _, _, _, rfl, rfl, S1, atI_nat (j := 0) (vN_get hg0), (by show 1 ≤ sizeLine; exact line_le (by decide)), fun pr hpr => ?_⟩
  have npr : pf ≠ pr := ne_of_none (o := .lst [V.int h0]) upd_same hpr
  have hpr0 : H pr = none := by rw [upd_ne (Ne.symm npr)] at hpr; exact hpr
  refine ⟨_, _, _, rfl, ?_⟩
  refine ⟨HgW K H c sm arms len l, ⟨_, pf, pr, [h0], [h0], none, none, none, ?_, same_at hpr0 (same_new hpf), hpf, npr, by rw [upd_ne npr, upd_same]; rfl, by rw [upd_same]; rfl, BInv.start hh0, rfl⟩, ?_⟩
  · show _ = _
    rw [← ed]
    rfl
  rintro m σ H1 ⟨pf, pr, found, rows, v6, v7, v8, rfl, s1, hpf, npr, hf, hrw, B, rfl⟩
  by_cases hrows : rows = []
  · refine ⟨_, rfl, false, .inl ⟨vN rows, .inl (.inl hrw), by rw [hrows]; rfl⟩, iteF ?_⟩
    refine ⟨_, rfl, _, _, rfl, .inl (.inl (.inl hf)), _, rfl, _, _, rfl, .inl (s1.seq S), _, _, rfl, rfl, ?_⟩
    show Q (.bl (decide ((vN found).length = (vN l).length))) H1
    rw [vN_len, vN_len]
    have e : decide (found.length = l.length) = dec (Conn (nearN arms len) l) := by
      refine dec_eq (decide_eq_true_iff.trans ?_)
      rw [hrows] at B
      exact (B.end_iff hl lnd).symm
    rw [e]
    exact kQ H1 s1
  refine ⟨_, rfl, true, .inl ⟨vN rows, .inl (.inl hrw), ?_⟩, iteT ?_⟩
  · cases rows with
    | nil => exact absurd rfl hrows
    | cons a t => rfl
  refine ⟨fun σ' H' => ∃ m', m' < bms l found rows ∧ HgW K H c sm arms len l m' σ' H', fun σ' H' h => h, ?_⟩
  refine ⟨Nat.zero_le _, fun pm hpm => ?_⟩
  have nfm : pf ≠ pm := ne_of_none hf hpm
  have nrm : pr ≠ pm := ne_of_none hrw hpm
  have hpm0 : H pm = none := s1.free hpm
  -- a round
  refine ⟨_, rfl, pr, rfl, ⟨_, .inl (.inl (by rw [upd_ne nrm]; exact hrw))⟩, for_list (xs := vN rows) (fun i σ H2 => ∃ (v7 v8 : Option V) (fm : List Nat × List Nat), fm = (rows.take i).foldl (turn (nearN arms len) l) (found, []) ∧
      σ = [some (.int arms), some (.ref c), some (.ref sm), some (.int len), some (.ref pf), some (.ref pr), some (.ref pm), v7, v8] ∧ Same H H2 ∧ H2 pf = some (.lst (vN fm.1)) ∧ H2 pr = some (.lst (vN rows)) ∧ H2 pm = some (.lst (vN fm.2)))
    ⟨v7, v8, _, rfl, rfl, same_at hpm0 s1, by rw [upd_ne nfm]; exact hf, by rw [upd_ne nrm]; exact hrw, upd_same⟩ (fun i σ H2 _ h => ?_) ?_ ?_⟩
  · obtain ⟨_, _, _, _, _, _, _, h, _⟩ := h
    exact .inl (.inl h)
  · rintro i x σ H2 hx ⟨v7, v8, fm, efm, rfl, s2, hf2, hr2, hm2⟩
    obtain ⟨cc, hcc, rfl⟩ := vN_of hx
    refine ⟨_, rfl, _, rfl, _, rfl, arms, len, cc, rfl, I.l1, hl9, ha9, fun H3 pq s3 hpq e3 => ?_⟩
    have nqf : pf ≠ pq := ne_of_none hf2 hpq
    have nqm : pm ≠ pq := ne_of_none hm2 hpq
    refine ⟨pq, rfl, ⟨_, .inl (.inl e3)⟩, for_list (xs := vN (nearN arms len cc)) (fun j σ H4 => ∃ (v8 : Option V) (fn : List Nat × List Nat), fn = ((nearN arms len cc).take j).foldl (visit l) fm ∧
      σ = [some (.int arms), some (.ref c), some (.ref sm), some (.int len), some (.ref pf), some (.ref pr), some (.ref pm), some (.int cc), v8] ∧ Same H H4 ∧ H4 pf = some (.lst (vN fn.1)) ∧ H4 pr = some (.lst (vN rows)) ∧ H4 pm = some (.lst (vN fn.2)) ∧ H4 pq = some (.lst (vN (nearN arms len cc))))
      ⟨v8, _, rfl, rfl, s2.trans s3, s3 _ _ hf2, s3 _ _ hr2, s3 _ _ hm2, e3⟩ (fun i σ H2 _ h => ?_) ?_ ?_⟩
    · obtain ⟨_, _, _, _, _, _, _, _, h⟩ := h
      exact .inl (.inl h)
    · rintro j y σ H4 hy ⟨v8, fn, efn, rfl, s4, hf4, hr4, hm4, hq4⟩
      obtain ⟨o, ho, rfl⟩ := vN_of hy
      have estep : ((nearN arms len cc).take (j + 1)).foldl (visit l) fm = visit l fn o := by
        rw [take_succ ho, List.foldl_append, ← efn]
        rfl
      refine ⟨_, rfl, _, rfl, sm, vN l, rfl, .inl (s4.seq S), rfl, vN_flat l, _, rfl, ?_⟩
      by_cases hol : o ∈ l
      · refine ifT (c := inV (.int o) (vN l)) (by rw [vN_in, decide_eq_true hol]) ?_
        refine ⟨_, rfl, _, rfl, pf, vN fn.1, rfl, .inl (.inl (.inl hf4)), rfl, vN_flat fn.1, _, rfl, ?_⟩
        by_cases hof : o ∈ fn.1
        · refine ifF (c := !inV (.int o) (vN fn.1)) (by rw [vN_in, decide_eq_true hof]; rfl) ?_
          refine ⟨_, _, rfl, rfl, s4, ?_, hr4, ?_, hq4⟩
          · rw [estep]; unfold visit; rw [if_neg (fun h => h.2 hof)]; exact hf4
          · rw [estep]; unfold visit; rw [if_neg (fun h => h.2 hof)]; exact hm4
        · refine ifT (c := !inV (.int o) (vN fn.1)) (by rw [vN_in, decide_eq_false hof]; rfl) ?_
          have hfl : fn.1.length ≤ 17 := by
            have RI : RInv (nearN arms len) l found fn := by
              have h1 := (RInv.turns (nb := nearN arms len) B.sub (rows.take i) (found, []) ⟨by simp, B.nd, B.sub, fun S _ h x hx => h x hx⟩ fun x hx => B.row x (List.mem_of_mem_take hx)).1
              rw [← efm] at h1
              have hcr : cc ∈ found := B.row cc (List.mem_of_getElem? hcc)
              have h2 := (RInv.visits hcr (B.sub cc hcr) ((nearN arms len cc).take j) fm h1 fun x hx => List.mem_of_mem_take hx).1
              rw [← efn] at h2
              exact h2
            exact Nat.le_trans (nodup_len fn.1 l RI.nd RI.sub) hll
          have hml : fn.2.length ≤ 17 := by
            have RI : fn.1 = found ++ fn.2 := by
              have h1 := (RInv.turns (nb := nearN arms len) B.sub (rows.take i) (found, []) ⟨by simp, B.nd, B.sub, fun S _ h x hx => h x hx⟩ fun x hx => B.row x (List.mem_of_mem_take hx)).1
              rw [← efm] at h1
              have hcr : cc ∈ found := B.row cc (List.mem_of_getElem? hcc)
              have h2 := (RInv.visits hcr (B.sub cc hcr) ((nearN arms len cc).take j) fm h1 fun x hx => List.mem_of_mem_take hx).1
              rw [← efn] at h2
              exact h2.eq
            have e : fn.1.length = found.length + fn.2.length := by rw [RI, List.length_append]
            omega
          refine ⟨_, rfl, .inl ⟨rfl, _, .inl (.inl hf4)⟩, _, rfl, _, _, _, rfl, rfl, hf4, by rw [vN_len]; exact line_lt (by omega), ?_⟩
          have hm5 : upd H4 pf (.lst (vN fn.1 ++ [V.int o])) pm = some (.lst (vN fn.2)) := by rw [upd_ne (Ne.symm nfm)]; exact hm4
          refine ⟨_, rfl, .inl ⟨rfl, _, .inl (.inl hm5)⟩, _, rfl, _, _, _, rfl, rfl, hm5, by rw [vN_len]; exact line_lt (by omega), ?_⟩
          have ev : visit l fn o = (fn.1 ++ [o], fn.2 ++ [o]) := by unfold visit; rw [if_pos ⟨hol, hof⟩]
          refine ⟨_, _, rfl, rfl, same_at hpm0 (same_at hpf s4), ?_, ?_, ?_, ?_⟩
          · rw [estep, ev, upd_ne nfm, upd_same, ← vN_app]
            rfl
          · rw [upd_ne nrm, upd_ne (Ne.symm npr)]
            exact hr4
          · rw [estep, ev, upd_same, ← vN_app]
            rfl
          · rw [upd_ne (Ne.symm nqm), upd_ne (Ne.symm nqf)]
            exact hq4
      · refine ifF (c := inV (.int o) (vN l)) (by rw [vN_in, decide_eq_false hol]) ?_
        refine iteF ⟨_, _, rfl, rfl, s4, ?_, hr4, ?_, hq4⟩
        · rw [estep]; unfold visit; rw [if_neg (fun h => hol h.1)]; exact hf4
        · rw [estep]; unfold visit; rw [if_neg (fun h => hol h.1)]; exact hm4
    · rintro σ H4 ⟨v8, fn, efn, rfl, s4, hf4, hr4, hm4, hq4⟩
      rw [vN_len, List.take_length] at efn
      refine ⟨_, _, fn, ?_, rfl, s4, hf4, hr4, hm4⟩
      rw [take_succ hcc, List.foldl_append, ← efm, efn]
      rfl
  · rintro σ H2 ⟨v7, v8, fm, efm, rfl, s2, hf2, hr2, hm2⟩
    rw [vN_len, List.take_length] at efm
    have ef : fm = round (nearN arms len) l found rows := efm
    obtain ⟨B2, e2⟩ := B.round
    rw [← ef] at B2 e2
    refine ⟨_, rfl, _, ?_, pf, pm, fm.1, fm.2, _, _, _, rfl, s2, hpf, nfm, hf2, hm2, B2, rfl⟩
    have hle := B2.len_le
    rw [e2] at hle ⊢
    exact bms_lt hrows hle
end
end SK
end

section
namespace SK
open PySem PySem.Spec PyProof.Rows L2 GxR SKG SKR
section
variable {P : Program} {w : World} {K : PySem.W.Frag} {mg : Str → Option Value} {base : Heap} {f : Addr} {fd : FuncData} {PA PM : Addr}

/-! ### are_cells -/
def spAreCells (K : PySem.W.Frag) (PA PM : Addr) : Sp := fun vs H Q _ => ∃ (c : Addr) (arms len lands : Nat) (cells : List Nat), vs = [.int arms, .ref c] ∧ SqT K H c (vN cells) ∧ Good arms len lands cells ∧ TabG H PA ∧ ∀ H', Gw PA PM H H' → Q (.bl true) H'
theorem scAreCells : FnScope ["arms", "cells", "lands", "length", "one", "land"] ["arms", "cells"] (defScope sAreCells) := ⟨rfl, rfl, rfl, by decide +kernel, rfl, by decide +kernel, by decide +kernel⟩
theorem ok_areCells {ca : Addr} (F : FunC K "are_cells" sAreCells f fd ca) (T : Txt mg) (TB : TabB base mg ca PA) (DI : Dn P w K mg base CX0 1 "is_in" ["value", "least", "most"] spIsIn)
    (DH : Dn P w K mg base CX0 2 "hangs" ["arms", "cells", "some"] (spHangs K)) (DE : Dn P w K mg base CX0 1 "held" ["cells", "land"] (spHeld K)) : FnOk P w K mg base CX0 4 f fd ["arms", "cells"] (spAreCells K PA PM) := by
  refine F.ok scAreCells (fun vs H Q E h => ?_) (fun A outer s H vs Q E hr h => ?_)
  · obtain ⟨_, _, _, _, _, rfl, _⟩ := h
    rfl
  obtain ⟨c, arms, len, lands, cells, rfl, C, G, tA, kQ⟩ := h
  obtain ⟨tml, hml⟩ := T.ml
  refine ⟨_, pss_cons (ps_if (PW.pt (pw_or (pt_cmpR ltK (pe_callB call_len_seq (by rfl) T.len bt_len (pa_cons (pv 1) pa_nil)) (pe_op addK (pv 0) (pn 1)) (nomark _))
      (pw_or (pt_truth (pe_op modK (pe_op subK (pe_callB call_len_seq (by rfl) T.len bt_len (pa_cons (pv 1) pa_nil)) (pn 1)) (pv 0)) (by intro _; rfl))
        (pw_or1 (pt_cmpR gtK (pe_op divK (pe_op subK (pe_callB call_len_seq (by rfl) T.len bt_len (pa_cons (pv 1) pa_nil)) (pn 1)) (pv 0)) (pe_glob (v := .int ((4 : Nat) : Int)) rfl hml ⟨_, rfl⟩) (nomark _))))))
      (pss_one (ps_ret pe_bl)) pss_nil)
    (pss_cons (ps_set (i := 3) scAreCells.nd rfl (Or.inr rfl) (pe_op divK (pe_op subK (pe_callB call_len_seq (by rfl) T.len bt_len (pa_cons (pv 1) pa_nil)) (pn 1)) (pv 0)))
    (pss_cons (ps_if (pt_not (pt_val (pe_allG (own := [("one", 4)]) (ix := 4) hr (by rfl) T.all bt_all TB rfl
        (blkOk_by (N := ["arms", "cells", "lands", "length", "one", "land"]) (sc := defScope sAreCells) (by decide +kernel)) scAreCells.nd (by decide +kernel) (by rfl) (by rfl) (by rfl) (by rfl) (by decide +kernel) (pi_tup (pv 1))
        (fun A' s' H' code fp pn' hr' => pe_d (k := 1) DI (hr'.mono (by decide)) (pa_cons (pv 4) (pa_cons (pn 0) (pa_cons (pv 3) pa_nil)))))))
      (pss_one (ps_ret pe_bl)) pss_nil)
    (pss_cons (ps_set (i := 2) scAreCells.nd rfl (Or.inl rfl) (pe_op addK (pe_callB (cr_maxT rfl) (by rfl) T.max bt_max (pa_cons (pv 1) pa_nil)) (pn 1)))
    (pss_one (ps_ret (pe_and (pe_cmpR gtK (pv 2) (pn 1) (nomark _)) (pe_one (pe_allG (own := [("land", 5)]) (ix := 5) hr (by rfl) T.all bt_all TB rfl
        (blkOk_by (N := ["arms", "cells", "lands", "length", "one", "land"]) (sc := defScope sAreCells) (by decide +kernel)) scAreCells.nd (by decide +kernel) (by rfl) (by rfl) (by rfl) (by rfl) (by decide +kernel) (pi_range1 (by rfl) T.range (pa_cons (pv 2) pa_nil))
        (fun A' s' H' code fp pn' hr' => pe_d (k := 2) DH hr' (pa_cons (pv 0) (pa_cons (pv 1) (pa_cons (pe_d (k := 1) DE (hr'.mono (by decide)) (pa_cons (pv 1) (pa_cons (pv 5) pa_nil))) pa_nil)))))))))))), ?_⟩
  have ha : arms ≠ 0 := by rcases G.isl.a with e | e <;> omega
  have ha9 : arms < 1073741824 := by rcases G.isl.a with e | e <;> omega
  have hz : (vN cells).length = arms * len + 1 := by rw [vN_len, G.sz]
  have hge : arms ≤ arms * len := Nat.le_mul_of_pos_right _ G.isl.l1
  have h1 : 1 ≤ (vN cells).length := by rw [hz]; omega
  have hd : ((vN cells).length - 1) / arms = len := by rw [hz]; exact isl_div G.isl
  have hmod : ((vN cells).length - 1) % arms = 0 := by rw [hz, Nat.add_sub_cancel]; exact Nat.mul_mod_right arms len
  have l4 := G.isl.l4
  have hl2 := G.l2
  have hlm := G.lm
  have h17 := isl_small G.isl
  refine ⟨_, rfl, _, _, rfl, .inr C, _, rfl, _, _, rfl, rfl, _, _, rfl, rfl, _, rfl, ifF (decide_eq_false (by rw [hz]; omega)) ?_⟩
  refine ⟨_, rfl, _, _, rfl, .inr C, _, _, rfl, rfl, h1, _, rfl, _, _, rfl, rfl, ha, false, ?_, iteF ?_⟩
  · show false = (((((vN cells).length - 1) % arms : Nat) : Int) != 0)
    rw [hmod]
    rfl
  refine ⟨_, rfl, _, _, rfl, .inr C, _, _, rfl, rfl, h1, _, rfl, _, _, rfl, rfl, ⟨ha, ha9⟩, _, _, rfl, rfl, _, rfl, ifF (decide_eq_false (by rw [hd]; omega)) ?_⟩
  refine ⟨_, rfl, _, _, rfl, .inr C, _, _, rfl, rfl, h1, _, rfl, _, _, rfl, rfl, ⟨ha, ha9⟩, ?_⟩
  -- all(is_in ..)
  refine ⟨_, rfl, c, rfl, ⟨_, C⟩, tA, fun H2 tb => ⟨cells.length, fun i H' => Gw PA PM H H', Gw.tbd (.inl rfl) tA tb, fun H' g => ⟨⟨_, sqT_gw g C, by rw [vN_len]; exact Nat.le_refl _⟩, ?_⟩, fun i H' hi g => ⟨⟨_, _, sqT_gw g C, vN_get (get_at0 hi)⟩, ?_⟩⟩⟩
  · refine ⟨_, rfl, ifF rfl ?_⟩
    have g2 : SqT K H' c (vN cells) := sqT_gw g C
    refine ⟨_, rfl, c, cells.map fun n : Nat => (n : Int), rfl, by rw [← vN_ints]; exact g2, by rw [List.length_map, G.sz]; omega, fun m hm1 hm2 => ?_⟩
    refine ⟨lands - 1, 1, by rw [G.max hm1 hm2], rfl, ?_⟩
    refine ⟨_, rfl, _, _, rfl, rfl, _, rfl, ifT (decide_eq_true (by omega)) ?_⟩
    refine ⟨_, rfl, _, rfl, by omega, by omega, g.tab PA tA, fun H3 tb3 => ⟨lands, fun i H'' => Gw PA PM H H'', g.trans (Gw.tbd (.inl rfl) (g.tab PA tA) tb3), fun H'' g' => ⟨?_, kQ H'' g'⟩, fun i H'' hi g' => ⟨?_, ?_⟩⟩⟩
    · show ((lands - 1 + 1 : Nat) : Int).toNat ≤ lands
      omega
    · show i < ((lands - 1 + 1 : Nat) : Int).toNat
      omega
    · rintro x H5 ⟨rfl, rfl⟩
      rw [Int.zero_add]
      refine ⟨_, rfl, _, rfl, _, rfl, _, rfl, c, cells, i, rfl, sqT_gw g' C, by rw [G.sz]; omega, fun H6 p s6 hp e6 => ?_⟩
      refine ⟨c, p, arms, len, vN cells, heldN cells i, rfl, sqT_same s6 (sqT_gw g' C), hz, G.isl, .inl (.inl e6), held_nd _ _, G.held_lt, fun H7 s7 => ?_⟩
      refine ⟨_, rfl, fun h => ?_, fun _ => g'.trans ((Gw.of s6).trans (Gw.of s7))⟩
      rw [dec_true (G.conn i hi)] at h
      cases h
  · rintro x H5 ⟨rfl, hx⟩
    have ex := hx _ (sqT_gw g C)
    rw [vN_get (get_at0 hi)] at ex
    cases ex
    have hlt : at0 cells i < lands := G.lt _ (List.mem_of_getElem? (get_at0 hi))
    refine ⟨_, rfl, _, rfl, _, _, _, rfl, ?_⟩
    have e1 : (decide (((0 : Nat) : Int) ≤ ((at0 cells i : Nat) : Int)) && decide (((at0 cells i : Nat) : Int) ≤ ((((vN cells).length - 1) / arms : Nat) : Int))) = true := by
      rw [hd, Bool.and_eq_true, decide_eq_true_iff, decide_eq_true_iff]
      omega
    refine ⟨_, rfl, fun h => ?_, fun _ => g⟩
    have h' := e1.symm.trans h
    cases h'
end
end SK
end

section
namespace SK
open PySem PySem.Spec PyProof.Rows L2 GxR SKG SKR
theorem tyx_of {K : PySem.W.Frag} {H : Hp} {a : Addr} {xs : List V} (h : SqT K H a xs) : TyX K H (.ref a) (.type "tuple") := by
  rcases h with (h | ⟨o, h⟩) | ⟨o, its, n, hk, hc, _⟩
  · exact .base (.tup h)
  · exact .fTuple h
  · exact .kTuple hk hc
section
variable {P : Program} {w : World} {K : PySem.W.Frag} {mg : Str → Option Value} {base : Heap} {f : Addr} {fd : FuncData} {PA PM : Addr}

/-! ### is_map, need_map -/
def spIsMap (K : PySem.W.Frag) (PA PM : Addr) : Sp := fun vs H Q _ => ∃ (a c : Addr) (arms len lands : Nat) (cells : List Nat), vs = [.ref a] ∧ ChAt K H a c arms cells ∧ Good arms len lands cells ∧ TabG H PA ∧ ∀ H', Gw PA PM H H' → Q (.bl true) H'
theorem scIsMap : FnScope ["value"] ["value"] (defScope sIsMap) := ⟨rfl, rfl, rfl, by decide +kernel, rfl, by decide +kernel, by decide +kernel⟩
theorem ok_isMap (F : Fun K "is_map" "is_map" sIsMap f fd) (T : Txt mg) (DI : Dn P w K mg base CX0 1 "is_in" ["value", "least", "most"] spIsIn) (DA : Dn P w K mg base CX0 4 "are_cells" ["arms", "cells"] (spAreCells K PA PM)) :
    FnOk P w K mg base CX0 5 f fd ["value"] (spIsMap K PA PM) := by
  refine F.ok scIsMap (fun vs H Q E h => ?_) (fun cdv A outer s H vs Q E hr h => ?_)
  · obtain ⟨_, _, _, _, _, _, rfl, _⟩ := h
    rfl
  obtain ⟨a, c, arms, len, lands, cells, rfl, C, G, tA, kQ⟩ := h
  obtain ⟨tla, hla⟩ := T.la
  obtain ⟨tma, hma⟩ := T.ma
  refine ⟨_, pss_cons (ps_if (PW.pt (pw_or (pt_not (pt_val (pe_callB call_isi (by rfl) T.isi bt_isi (pa_cons (pv 0) (pa_cons (pe_bltn (v := .ty "tuple") (by rfl) T.tuple bt_tuple rfl) pa_nil)))))
      (pw_or (pt_cmpR neK (pe_callB call_len_seq (by rfl) T.len bt_len (pa_cons (pv 0) pa_nil)) (pn 2) (nomark _))
        (pw_or1 (pt_not (pt_val (pe_d (k := 1) DI (hr.mono (by decide)) (pa_cons (pe_ix ix_tup (pv 0) (pn 0) (fun _ _ => rfl)) (pa_cons (pe_glob (v := .int ((3 : Nat) : Int)) rfl hla ⟨_, rfl⟩) (pa_cons (pe_glob (v := .int ((4 : Nat) : Int)) rfl hma ⟨_, rfl⟩) pa_nil))))))))))
      (pss_one (ps_ret pe_bl)) pss_nil)
    (pss_one (ps_ret (pe_and (pe_callB call_isi (by rfl) T.isi bt_isi (pa_cons (pe_ix ix_tup (pv 0) (pn 1) (fun _ _ => rfl)) (pa_cons (pe_bltn (v := .ty "tuple") (by rfl) T.tuple bt_tuple rfl) pa_nil)))
      (pe_one (pe_d (k := 4) DA hr (pa_cons (pe_ix ix_tup (pv 0) (pn 0) (fun _ _ => rfl)) (pa_cons (pe_ix ix_tup (pv 0) (pn 1) (fun _ _ => rfl)) pa_nil))))))), ?_⟩
  refine ⟨_, rfl, _, _, _, _, true, rfl, .ty "tuple", tyx_of C.t, kit_ty (by decide +kernel), _, rfl, iteF ?_⟩
  refine ⟨_, rfl, _, _, rfl, .inr C.t, 2, 2, rfl, rfl, _, rfl, iteF ?_⟩
  refine ⟨_, rfl, _, _, _, _, rfl, rfl, C.t, atI_nat (j := 0) rfl, _, _, _, rfl, true, ?_, iteF ?_⟩
  · have e : (decide (((3 : Nat) : Int) ≤ (arms : Int)) && decide ((arms : Int) ≤ ((4 : Nat) : Int))) = true := by
      rw [Bool.and_eq_true, decide_eq_true_iff, decide_eq_true_iff]
      rcases G.isl.a with e | e <;> omega
    rw [e]
  refine ⟨_, rfl, _, _, _, _, rfl, rfl, C.t, atI_nat (j := 1) rfl, _, _, _, _, true, rfl, .ty "tuple", tyx_of C.c, kit_ty (by decide +kernel), _, rfl, iteT ?_⟩
  exact ⟨_, rfl, _, _, _, _, rfl, rfl, C.t, atI_nat (j := 0) rfl, _, rfl, _, _, _, _, rfl, rfl, C.t, atI_nat (j := 1) rfl, c, arms, len, lands, cells, rfl, C.c, G, tA, kQ⟩
def spNeedMap (K : PySem.W.Frag) (PA PM : Addr) : Sp := fun vs H Q _ => ∃ (a c : Addr) (arms len lands : Nat) (cells : List Nat), vs = [.ref a] ∧ ChAt K H a c arms cells ∧ Good arms len lands cells ∧ TabG H PA ∧ ∀ H', Gw PA PM H H' → Q .non H'
theorem scNeedMap : FnScope ["chart"] ["chart"] (defScope sNeedMap) := ⟨rfl, rfl, rfl, by decide +kernel, rfl, by decide +kernel, by decide +kernel⟩
theorem ok_needMap (F : Fun K "need_map" "need_map" sNeedMap f fd) (T : Txt mg) (DM : Dn P w K mg base CX0 5 "is_map" ["value"] (spIsMap K PA PM)) : FnOk P w K mg base CX0 6 f fd ["chart"] (spNeedMap K PA PM) := by
  refine F.ok scNeedMap (fun vs H Q E h => ?_) (fun cdv A outer s H vs Q E hr h => ?_)
  · obtain ⟨_, _, _, _, _, _, rfl, _⟩ := h
    rfl
  obtain ⟨a, c, arms, len, lands, cells, rfl, C, G, tA, kQ⟩ := h
  refine ⟨_, pss_one (ps_if (pt_not (pt_val (pe_d DM hr (pa_cons (pv 0) pa_nil)))) pss_never pss_nil), ?_⟩
  exact ⟨_, rfl, a, c, arms, len, lands, cells, rfl, C, G, tA, fun H' g => ⟨_, rfl, iteF (kQ H' g)⟩⟩

/-! ### is_taking -/
def spIsTaking (K : PySem.W.Frag) : Sp := fun vs H Q _ => ∃ (a c t : Addr) (arms len lands land cell : Nat) (cells : List Nat), vs = [.ref a, .ref t] ∧ ChAt K H a c arms cells ∧ Good arms len lands cells ∧ SqT K H t [.int land, .int cell] ∧ land < lands ∧ cell < arms * len + 1 ∧ Q (.bl true) H
theorem scIsTaking : FnScope ["chart", "value"] ["chart", "value"] (defScope sIsTaking) := ⟨rfl, rfl, rfl, by decide +kernel, rfl, by decide +kernel, by decide +kernel⟩
theorem ok_isTaking (F : Fun K "is_taking" "is_taking" sIsTaking f fd) (T : Txt mg) (DI : Dn P w K mg base CX0 1 "is_in" ["value", "least", "most"] spIsIn) (DL : Dn P w K mg base CX0 1 "lands_of" ["chart"] (spLandsOf K)) :
    FnOk P w K mg base CX0 2 f fd ["chart", "value"] (spIsTaking K) := by
  refine F.ok scIsTaking (fun vs H Q E h => ?_) (fun cdv A outer s H vs Q E hr h => ?_)
  · obtain ⟨_, _, _, _, _, _, _, _, _, rfl, _⟩ := h
    rfl
  obtain ⟨a, c, t, arms, len, lands, land, cell, cells, rfl, C, G, S, hl, hc, kQ⟩ := h
  refine ⟨_, pss_cons (ps_if (PW.pt (pw_or (pt_not (pt_val (pe_callB call_isi (by rfl) T.isi bt_isi (pa_cons (pv 1) (pa_cons (pe_bltn (v := .ty "tuple") (by rfl) T.tuple bt_tuple rfl) pa_nil)))))
      (pw_or (pt_cmpR neK (pe_callB call_len_seq (by rfl) T.len bt_len (pa_cons (pv 1) pa_nil)) (pn 2) (nomark _))
        (pw_or1 (pt_not (pt_val (pe_d (k := 1) DI hr (pa_cons (pe_ix ix_tup (pv 1) (pn 0) (fun _ _ => rfl)) (pa_cons (pn 0) (pa_cons (pe_op subK (pe_d (k := 1) DL hr (pa_cons (pv 0) pa_nil)) (pn 1)) pa_nil))))))))))
      (pss_one (ps_ret pe_bl)) pss_nil)
    (pss_one (ps_ret (pe_d (k := 1) DI hr (pa_cons (pe_ix ix_tup (pv 1) (pn 1) (fun _ _ => rfl)) (pa_cons (pn 0) (pa_cons (pe_op subK (pe_callB call_len_seq (by rfl) T.len bt_len (pa_cons (pe_ix ix_tup (pv 0) (pn 1) (fun _ _ => rfl)) pa_nil)) (pn 1)) pa_nil)))))), ?_⟩
  have hl2 := G.l2
  have hz : (vN cells).length = arms * len + 1 := by rw [vN_len, G.sz]
  refine ⟨_, rfl, _, _, _, _, true, rfl, .ty "tuple", tyx_of S, kit_ty (by decide +kernel), _, rfl, iteF ?_⟩
  refine ⟨_, rfl, _, _, rfl, .inr S, 2, 2, rfl, rfl, _, rfl, iteF ?_⟩
  refine ⟨_, rfl, _, _, _, _, rfl, rfl, S, atI_nat (j := 0) rfl, _, rfl, a, c, arms, len, lands, cells, rfl, C, G, _, _, rfl, rfl, (by omega : 1 ≤ lands), _, _, _, rfl, true, ?_, iteF ?_⟩
  · have e : (decide (((0 : Nat) : Int) ≤ (land : Int)) && decide ((land : Int) ≤ ((lands - 1 : Nat) : Int))) = true := by
      rw [Bool.and_eq_true, decide_eq_true_iff, decide_eq_true_iff]
      omega
    exact congrArg V.bl e
  refine ⟨_, rfl, _, _, _, _, rfl, rfl, S, atI_nat (j := 1) rfl, _, rfl, _, _, _, _, rfl, rfl, C.t, atI_nat (j := 1) rfl, _, _, rfl, .inr C.c, _, _, rfl, rfl, (by omega : 1 ≤ (vN cells).length), _, _, _, rfl, ?_⟩
  have e : (decide (((0 : Nat) : Int) ≤ (cell : Int)) && decide ((cell : Int) ≤ (((vN cells).length - 1 : Nat) : Int))) = true := by
    rw [Bool.and_eq_true, decide_eq_true_iff, decide_eq_true_iff, hz]
    omega
  show Q (.bl (decide (((0 : Nat) : Int) ≤ (cell : Int)) && decide ((cell : Int) ≤ (((vN cells).length - 1 : Nat) : Int)))) H
  rw [e]
  exact kQ
end
end SK
end

section
namespace SK
open PySem PySem.Spec PyProof.Rows L2 GxR SKG SKR
section
variable {P : Program} {w : World} {K : PySem.W.Frag} {mg : Str → Option Value} {base : Heap} {f : Addr} {fd : FuncData} {PA PM : Addr}

/-! ### is_made -/
def spIsMade (K : PySem.W.Frag) (PA PM : Addr) : Sp := fun vs H Q _ => ∃ (a c t : Addr) (arms len lands land cell : Nat) (cells : List Nat), vs = [.ref a, .ref t] ∧ ChAt K H a c arms cells ∧ Good arms len lands cells ∧ SqT K H t [.int land, .int cell] ∧ cell < arms * len + 1 ∧ TabG H PM ∧
  ∀ H', Gw PA PM H H' → Q (.bl (dec (Made arms len cells land cell))) H'
theorem scIsMade : FnScope ["chart", "taking", "land", "cell", "other", "one"] ["chart", "taking"] (defScope sIsMade) := ⟨rfl, rfl, rfl, by decide +kernel, rfl, by decide +kernel, by decide +kernel⟩
theorem ok_isMade {cm : Addr} (F : FunC K "is_made" sIsMade f fd cm) (T : Txt mg) (TB : TabB base mg cm PM) (DN : Dn P w K mg base CX0 1 "near" ["arms", "length", "cell"] spNear) (DL : Dn P w K mg base CX0 1 "length_of" ["chart"] (spLenOf K))
    (DH : Dn P w K mg base CX0 2 "hangs" ["arms", "cells", "some"] (spHangs K)) (DE : Dn P w K mg base CX0 1 "held" ["cells", "land"] (spHeld K)) : FnOk P w K mg base CX0 3 f fd ["chart", "taking"] (spIsMade K PA PM) := by
  refine F.ok scIsMade (fun vs H Q E h => ?_) (fun A outer s H vs Q E hr h => ?_)
  · obtain ⟨_, _, _, _, _, _, _, _, _, rfl, _⟩ := h
    rfl
  obtain ⟨a, c, t, arms, len, lands, land, cell, cells, rfl, C, G, S, hc, tM, kQ⟩ := h
  have hr1 : Room 1 _ := hr.mono (by decide)
  refine ⟨_, pss_cons (ps_asg (pv 1) (pg_tup (n := 2) rfl (pgs_cons (pg_name (i := 2) scIsMade.nd rfl (Or.inr rfl)) (pgs_cons (pg_name (i := 3) scIsMade.nd rfl (Or.inr rfl)) pgs_nil))))
    (pss_cons (ps_set (i := 4) scIsMade.nd rfl (Or.inl rfl) (pe_ix ix_tup (pe_ix ix_tup (pv 0) (pn 1) (fun _ _ => rfl)) (pv 3) (fun _ _ => rfl)))
    (pss_cons (ps_if (PW.pt (pw_or (pt_cmpR eqK (pv 4) (pv 2) (nomark _))
        (pw_or1 (pt_not (pt_val (pe_anyG (own := [("one", 5)]) (ix := 5) (k := 1) (te := tOp (rK0 fun a b => .bl (decide (a = b))) (tOp (rIxT K) (tOp (rIxT K) (tVar 0) (tC (.int ((1 : Nat) : Int)))) (tVar 5)) (tVar 2)) hr (by rfl) T.any TB rfl
          (blkOk_by (N := ["chart", "taking", "land", "cell", "other", "one"]) (sc := defScope sIsMade) (by decide +kernel)) scIsMade.nd (by decide +kernel) (by rfl) (by rfl) (by rfl) (by rfl) (by decide +kernel)
          (pi_list (pe_d (k := 1) DN hr1 (pa_cons (pe_ix ix_tup (pv 0) (pn 0) (fun _ _ => rfl)) (pa_cons (pe_d (k := 1) DL hr1 (pa_cons (pv 0) pa_nil)) (pa_cons (pv 3) pa_nil)))))
          (fun A' s' H' code fp pn' hr' => pe_cmpR eqK (pe_ix ix_tup (pe_ix ix_tup (pv 0) (pn 1) (fun _ _ => rfl)) (pv 5) (fun _ _ => rfl)) (pv 2) (nomark _))))))))
      (pss_one (ps_ret pe_bl)) pss_nil)
    (pss_one (ps_ret (pe_d (k := 2) DH hr (pa_cons (pe_ix ix_tup (pv 0) (pn 0) (fun _ _ => rfl)) (pa_cons (pe_ix ix_tup (pv 0) (pn 1) (fun _ _ => rfl))
      (pa_cons (pe_lc (own := [("one", 5)]) (g := gName 5) rfl scIsMade.nd (pi_list (pe_d (k := 1) DE hr1 (pa_cons (pe_ix ix_tup (pv 0) (pn 1) (fun _ _ => rfl)) (pa_cons (pv 4) pa_nil))))
        (blkOk_by (N := ["chart", "taking", "land", "cell", "other", "one"]) (sc := defScope sIsMade) (by decide +kernel)) (fun _ _ _ _ _ => pg_name (i := 5) scIsMade.nd rfl (Or.inl rfl)) (fun _ _ _ _ _ => pts_one (pt_cmpR neK (pv 5) (pv 3) (nomark _))) (fun _ _ _ _ _ => pv 5)) pa_nil)))))))), ?_⟩
  have hcc : cell < cells.length := by rw [G.sz]; exact hc
  have ha9 : arms ≤ 1000 := by rcases G.isl.a with e | e <;> omega
  have hl9 : len ≤ 1000 := by have := G.isl.l4; omega
  have nf := near_f G.isl hc
  refine ⟨_, rfl, t, _, rfl, S, rfl, _, _, rfl, _, _, rfl, rfl, ?_⟩
  refine ⟨_, rfl, _, _, _, _, rfl, rfl, C.t, atI_nat (j := 1) rfl, _, rfl, c, vN cells, _, _, rfl, rfl, C.c, atI_nat (vN_get (get_at0 hcc)), ?_⟩
  refine ⟨_, rfl, _, rfl, at0 cells cell, land, rfl, rfl, _, rfl, ?_⟩
  by_cases ho : at0 cells cell = land
  · refine ifT (decide_eq_true ho) (iteT ?_)
    have q := kQ H (Gw.refl H)
    rw [dec_false (fun h => h.1 ho)] at q
    exact q
  refine ifF (decide_eq_false ho) ?_
  refine ⟨_, rfl, _, _, _, _, rfl, rfl, C.t, atI_nat (j := 0) rfl, _, rfl, a, c, arms, len, cells, rfl, C, G.isl, G.sz, _, rfl, arms, len, cell, rfl, G.isl.l1, hl9, ha9, fun H1 pq s1 hpq e1 => ?_⟩
  refine ⟨pq, rfl, ⟨_, .inl (.inl e1)⟩, (Gw.of (PA := PA) (PM := PM) s1).tab PM tM, fun H2 tb => ?_⟩
  have g2 : Gw PA PM H H2 := (Gw.of s1).trans (Gw.tbd (.inr rfl) ((Gw.of (PA := PA) (PM := PM) s1).tab PM tM) tb)
  have e2 : H2 pq = some (.lst (vN (nearN arms len cell))) := (Gw.tbd (PA := PA) (.inr rfl) ((Gw.of (PA := PA) (PM := PM) s1).tab PM tM) tb).keep _ _ e1 fun ps z => by cases z
  refine ⟨(nearN arms len cell).length, fun i H' => Gw PA PM H H' ∧ H' pq = some (.lst (vN (nearN arms len cell))) ∧ ∀ j o, j < i → (nearN arms len cell)[j]? = some o → at0 cells o ≠ land, ⟨g2, e2, fun j o hj => absurd hj (Nat.not_lt_zero _)⟩, fun H' h => ?_, fun i H' hi h => ?_⟩
  · obtain ⟨g, e, hno⟩ := h
    refine ⟨⟨_, .inl (.inl e), by rw [vN_len]; exact Nat.le_refl _⟩, _, rfl, iteT ?_⟩
    have q := kQ H' g
    rw [dec_false (fun h => ?_)] at q
    · exact q
    · obtain ⟨_, ⟨o, ho1, ho2⟩, _⟩ := h
      obtain ⟨j, hj, ej⟩ := List.getElem_of_mem ho1
      exact hno j o hj (by rw [List.getElem?_eq_getElem hj, ej]) ho2
  · obtain ⟨g, e, hno⟩ := h
    obtain ⟨o, ho1⟩ : ∃ o, (nearN arms len cell)[i]? = some o := ⟨_, List.getElem?_eq_getElem hi⟩
    refine ⟨⟨_, _, .inl (.inl e), vN_get ho1⟩, ?_⟩
    rintro x H3 ⟨rfl, hx⟩
    have ex := hx _ (.inl (.inl e))
    rw [vN_get ho1] at ex
    cases ex
    have hol : o < cells.length := by rw [G.sz]; exact nf.lt o (List.mem_of_getElem? ho1)
    have C3 := C.gw g
    refine ⟨_, rfl, _, _, _, _, rfl, rfl, C3.t, atI_nat (j := 1) rfl, _, rfl, c, vN cells, _, _, rfl, rfl, C3.c, atI_nat (vN_get (get_at0 hol)), _, rfl, at0 cells o, land, rfl, rfl, ?_⟩
    refine ⟨_, rfl, fun h => ?_, fun h => ⟨g, e, fun j o' hj hj' => ?_⟩⟩
    · -- the rest
      have hol2 : at0 cells o = land := of_decide_eq_true h
      refine ⟨_, rfl, iteF ?_⟩
      refine ⟨_, rfl, _, _, _, _, rfl, rfl, C3.t, atI_nat (j := 0) rfl, _, rfl, _, _, _, _, rfl, rfl, C3.t, atI_nat (j := 1) rfl, ?_⟩
      refine ⟨_, rfl, _, _, _, _, rfl, rfl, C3.t, atI_nat (j := 1) rfl, _, rfl, c, cells, at0 cells cell, rfl, C3.c, (by rw [G.sz]; exact Nat.le_trans (isl_small G.isl) (by decide)), fun H4 p4 s4 hp4 e4 => ?_⟩
      refine ⟨p4, rfl, ⟨_, .inl (.inl e4)⟩, fun D hD => ?_⟩
      have nD : p4 ≠ D := ne_of_none e4 hD
      have hhl : (heldN cells (at0 cells cell)).length ≤ 17 := Nat.le_trans (lt_len (held_nd _ _) G.held_lt) (isl_small G.isl)
      refine lc_list (K := K) (a := p4) (xs := vN (heldN cells (at0 cells cell))) (fun j H5 => Same H4 H5 ∧ H5 D = some (.lst (vN (((heldN cells (at0 cells cell)).take j).filter fun x => decide (x ≠ cell))))) ⟨same_new hD, upd_same⟩ (fun j H5 _ h => .inl (.inl (h.1 _ _ e4))) ?_ ?_
      · rintro j y H5 hy ⟨s5, e5⟩
        obtain ⟨z, hz, rfl⟩ := vN_of hy
        refine ⟨rfl, _, rfl, _, rfl, z, cell, rfl, rfl, _, rfl, ?_⟩
        have er : ((heldN cells (at0 cells cell)).take (j + 1)).filter (fun x => decide (x ≠ cell)) = ((heldN cells (at0 cells cell)).take j).filter (fun x => decide (x ≠ cell)) ++ (if z = cell then [] else [z]) := by
          rw [take_succ hz, List.filter_append]
          by_cases h : z = cell <;> simp [h]
        rw [er]
        by_cases hzc : z = cell
        · refine ifF (by rw [decide_eq_true hzc]; rfl) ⟨s5, ?_⟩
          rw [e5, if_pos hzc, List.append_nil]
        · refine ifT (by rw [decide_eq_false hzc]; rfl) ?_
          refine ⟨_, rfl, _, e5, ?_, same_at hD s5, ?_⟩
          · rw [vN_len]
            refine line_lt (Nat.le_trans (List.length_filter_le _ _) ?_)
            rw [List.length_take]
            omega
          · rw [upd_same, if_neg hzc, ← vN_app]
            rfl
      · rintro H5 ⟨s5, e5⟩
        rw [vN_len, List.take_length] at e5
        refine ⟨c, D, arms, len, vN cells, restN cells (at0 cells cell) cell, rfl, sqT_same s5 (sqT_same s4 C3.c), by rw [vN_len, G.sz], G.isl, .inl (.inl e5), rest_nd _ _ _, fun x hx => ?_, fun H6 s6 => ?_⟩
        · have := (mem_rest.mp hx).1.1
          rw [G.sz] at this
          exact this
        · have q := kQ H6 (g.trans ((Gw.of s4).trans ((Gw.of s5).trans (Gw.of s6))))
          have e : dec (Made arms len cells land cell) = dec (Conn (nearN arms len) (restN cells (at0 cells cell) cell)) := dec_eq (dec_iff.trans ⟨fun h => h.2.2, fun h => ⟨ho, ⟨o, List.mem_of_getElem? ho1, hol2⟩, h⟩⟩)
          rw [e] at q
          exact q
    · rcases Nat.lt_or_ge j i with z | z
      · exact hno j o' z hj'
      · have : j = i := by omega
        subst this
        rw [ho1] at hj'
        cases hj'
        exact of_decide_eq_false (by simpa using h)
end
end SK
end

section
/-! Lists of pairs, of maps; what a store leaves. -/
namespace SK
open PySem PySem.Spec PyProof.Rows L2 GxR SKG SKR
section
variable {K : PySem.W.Frag} {PA PM : Addr} {H H' : Hp}
theorem gw_at {p : Addr} {o : HO} (hp : H p = none) (e : Gw PA PM H H') : Gw PA PM H (upd H' p o) := by
  refine ⟨fun b u h n => ?_, fun b n1 n2 u h => ?_, fun P h => ?_, fun l h => ?_⟩
  · rw [upd_ne (ne_of_none h hp)]
    exact e.keep b u h n
  · rw [upd_ne (ne_of_none h hp)]
    exact e.keepT b n1 n2 u h
  · obtain ⟨ps, h1, h2⟩ := h
    obtain ⟨ps', h3, h4⟩ := e.tab P ⟨ps, h1, h2⟩
    exact ⟨ps', by rw [upd_ne (ne_of_none h1 hp)]; exact h3, h4⟩
  · by_cases hl : l = p
    · rw [hl]; exact hp
    · rw [upd_ne hl] at h
      exact e.free l h
theorem sqT_upd {a D : Addr} {xs ys : List V} {o : HO} (h : SqT K H a xs) (hD : H D = some (.lst ys)) : SqT K (upd H D o) a xs := by
  rcases h with (h | ⟨u, h⟩) | h
  · exact .inl (.inl (by rw [upd_ne (ne_of h hD (by intro z; cases z))]; exact h))
  · exact .inl (.inr ⟨u, by rw [upd_ne (ne_of h hD (by intro z; cases z))]; exact h⟩)
  · exact .inr h
theorem sqL_upd {a D : Addr} {xs : List V} {o : HO} (h : SqL K H a xs) (hne : a ≠ D) : SqL K (upd H D o) a xs := by
  rcases h with (h | ⟨u, h⟩) | h
  · exact .inl (.inl (by rw [upd_ne hne]; exact h))
  · exact .inl (.inr ⟨u, by rw [upd_ne hne]; exact h⟩)
  · exact .inr h
theorem ChAt.upd {a c D : Addr} {ys : List V} {o : HO} {arms : Nat} {cells : List Nat} (h : ChAt K H a c arms cells) (hD : H D = some (.lst ys)) : ChAt K (L2.upd H D o) a c arms cells := ⟨sqT_upd h.t hD, sqT_upd h.c hD⟩

theorem paired_app {α β : Type} {F : α → β → Prop} : ∀ {l1 l2 : List α} {m1 m2 : List β}, Paired F l1 m1 → Paired F l2 m2 → Paired F (l1 ++ l2) (m1 ++ m2)
  | _, _, _, _, .nil, s => s
  | _, _, _, _, .cons r t, s => .cons r (paired_app t s)
theorem paired_get {α β : Type} {F : α → β → Prop} : ∀ {l : List α} {m : List β} {i : Nat} {y : β}, Paired F l m → m[i]? = some y → ∃ x, l[i]? = some x ∧ F x y
  | _, _, _, _, .nil, e => by simp at e
  | _, _, 0, _, .cons r _, e => by simp at e; subst e; exact ⟨_, rfl, r⟩
  | _, _, i + 1, y, .cons _ t, e => by
    obtain ⟨x, h1, h2⟩ := paired_get (i := i) (y := y) t (by simpa using e)
    exact ⟨x, by simpa using h1, h2⟩
theorem paired_got {α β : Type} {F : α → β → Prop} : ∀ {l : List α} {m : List β} {i : Nat} {x : α}, Paired F l m → l[i]? = some x → ∃ y, m[i]? = some y ∧ F x y
  | _, _, _, _, .nil, e => by simp at e
  | _, _, 0, _, .cons r _, e => by simp at e; subst e; exact ⟨_, rfl, r⟩
  | _, _, i + 1, x, .cons _ t, e => by
    obtain ⟨y, h1, h2⟩ := paired_got (i := i) (x := x) t (by simpa using e)
    exact ⟨y, by simpa using h1, h2⟩
/-- values that stand for takings -/
def IsTk (K : PySem.W.Frag) (H : Hp) (x : V) (t : Nat × Nat) : Prop := ∃ r, x = V.ref r ∧ SqT K H r [.int (t.1 : Nat), .int (t.2 : Nat)]
abbrev Prs (K : PySem.W.Frag) (H : Hp) : List V → List (Nat × Nat) → Prop := Paired (IsTk K H)
theorem IsTk.gw {x : V} {t : Nat × Nat} (e : Gw PA PM H H') (h : IsTk K H x t) : IsTk K H' x t := let ⟨r, h1, h2⟩ := h; ⟨r, h1, sqT_gw e h2⟩
theorem Prs.gw {xs : List V} {ts : List (Nat × Nat)} (e : Gw PA PM H H') (h : Prs K H xs ts) : Prs K H' xs ts := Paired.mapP h fun _ _ z => IsTk.gw e z
theorem IsTk.upd {x : V} {t : Nat × Nat} {D : Addr} {ys : List V} {o : HO} (h : IsTk K H x t) (hD : H D = some (.lst ys)) : IsTk K (L2.upd H D o) x t := let ⟨r, h1, h2⟩ := h; ⟨r, h1, sqT_upd h2 hD⟩
theorem Prs.upd {xs : List V} {ts : List (Nat × Nat)} {D : Addr} {ys : List V} {o : HO} (h : Prs K H xs ts) (hD : H D = some (.lst ys)) : Prs K (L2.upd H D o) xs ts := Paired.mapP h fun _ _ z => IsTk.upd z hD
/-- values that stand for maps -/
def IsCh (K : PySem.W.Frag) (H : Hp) (arms : Nat) (x : V) (cells : List Nat) : Prop := ∃ a c, x = V.ref a ∧ ChAt K H a c arms cells
abbrev Chs (K : PySem.W.Frag) (H : Hp) (arms : Nat) : List V → List (List Nat) → Prop := Paired (IsCh K H arms)
theorem IsCh.gw {arms : Nat} {x : V} {t : List Nat} (e : Gw PA PM H H') (h : IsCh K H arms x t) : IsCh K H' arms x t := let ⟨a, c, h1, h2⟩ := h; ⟨a, c, h1, ChAt.gw e h2⟩
theorem Chs.gw {arms : Nat} {xs : List V} {ts : List (List Nat)} (e : Gw PA PM H H') (h : Chs K H arms xs ts) : Chs K H' arms xs ts := Paired.mapP h fun _ _ z => IsCh.gw e z
theorem IsCh.upd {arms : Nat} {x : V} {t : List Nat} {D : Addr} {ys : List V} {o : HO} (h : IsCh K H arms x t) (hD : H D = some (.lst ys)) : IsCh K (L2.upd H D o) arms x t := let ⟨a, c, h1, h2⟩ := h; ⟨a, c, h1, ChAt.upd h2 hD⟩
theorem Chs.upd {arms : Nat} {xs : List V} {ts : List (List Nat)} {D : Addr} {ys : List V} {o : HO} (h : Chs K H arms xs ts) (hD : H D = some (.lst ys)) : Chs K (L2.upd H D o) arms xs ts := Paired.mapP h fun _ _ z => IsCh.upd z hD
end
end SK
end

section
namespace SK
open PySem PySem.Spec PyProof.Rows L2 GxR SKG SKR
section
variable {P : Program} {w : World} {K : PySem.W.Frag} {mg : Str → Option Value} {base : Heap} {f : Addr} {fd : FuncData} {PA PM : Addr}

/-! ### need_taking, can_take -/
structure TkArgs (K : PySem.W.Frag) (H : Hp) (a c t : Addr) (arms len lands land cell : Nat) (cells : List Nat) : Prop where
  C : ChAt K H a c arms cells
  G : Good arms len lands cells
  S : SqT K H t [.int (land : Nat), .int (cell : Nat)]
  hl : land < lands
  hc : cell < arms * len + 1
theorem TkArgs.gw {H H' : Hp} {a c t : Addr} {arms len lands land cell : Nat} {cells : List Nat} (h : TkArgs K H a c t arms len lands land cell cells) (e : Gw PA PM H H') : TkArgs K H' a c t arms len lands land cell cells := ⟨h.C.gw e, h.G, sqT_gw e h.S, h.hl, h.hc⟩
def spNeedTaking (K : PySem.W.Frag) (PA PM : Addr) : Sp := fun vs H Q _ => ∃ (a c t : Addr) (arms len lands land cell : Nat) (cells : List Nat), vs = [.ref a, .ref t] ∧ TkArgs K H a c t arms len lands land cell cells ∧ TabG H PA ∧ ∀ H', Gw PA PM H H' → Q .non H'
theorem scNeedTaking : FnScope ["chart", "taking"] ["chart", "taking"] (defScope sNeedTaking) := ⟨rfl, rfl, rfl, by decide +kernel, rfl, by decide +kernel, by decide +kernel⟩
theorem ok_needTaking (F : Fun K "need_taking" "need_taking" sNeedTaking f fd) (DM : Dn P w K mg base CX0 6 "need_map" ["chart"] (spNeedMap K PA PM)) (DT : Dn P w K mg base CX0 2 "is_taking" ["chart", "value"] (spIsTaking K)) :
    FnOk P w K mg base CX0 7 f fd ["chart", "taking"] (spNeedTaking K PA PM) := by
  refine F.ok scNeedTaking (fun vs H Q E h => ?_) (fun cdv A outer s H vs Q E hr h => ?_)
  · obtain ⟨_, _, _, _, _, _, _, _, _, rfl, _⟩ := h
    rfl
  obtain ⟨a, c, t, arms, len, lands, land, cell, cells, rfl, X, tA, kQ⟩ := h
  refine ⟨_, pss_cons (ps_expr (pe_d (k := 6) DM hr (pa_cons (pv 0) pa_nil))) (pss_one (ps_if (pt_not (pt_val (pe_d (k := 2) DT (hr.mono (by decide)) (pa_cons (pv 0) (pa_cons (pv 1) pa_nil))))) pss_never pss_nil)), ?_⟩
  refine ⟨_, rfl, a, c, arms, len, lands, cells, rfl, X.C, X.G, tA, fun H' g => ?_⟩
  have X' := X.gw g
  exact ⟨_, rfl, _, rfl, a, c, t, arms, len, lands, land, cell, cells, rfl, X'.C, X'.G, X'.S, X'.hl, X'.hc, _, rfl, iteF (kQ H' g)⟩
def spCanTake (K : PySem.W.Frag) (PA PM : Addr) : Sp := fun vs H Q _ => ∃ (a c t : Addr) (arms len lands land cell : Nat) (cells : List Nat), vs = [.ref a, .ref t] ∧ TkArgs K H a c t arms len lands land cell cells ∧ TabG H PA ∧ TabG H PM ∧
  ∀ H', Gw PA PM H H' → Q (.bl (dec (Made arms len cells land cell))) H'
theorem scCanTake : FnScope ["chart", "taking"] ["chart", "taking"] (defScope sCanTake) := ⟨rfl, rfl, rfl, by decide +kernel, rfl, by decide +kernel, by decide +kernel⟩
theorem ok_canTake (F : Fun K "can_take" "can_take" sCanTake f fd) (DN : Dn P w K mg base CX0 7 "need_taking" ["chart", "taking"] (spNeedTaking K PA PM)) (DM : Dn P w K mg base CX0 3 "is_made" ["chart", "taking"] (spIsMade K PA PM)) :
    FnOk P w K mg base CX0 8 f fd ["chart", "taking"] (spCanTake K PA PM) := by
  refine F.ok scCanTake (fun vs H Q E h => ?_) (fun cdv A outer s H vs Q E hr h => ?_)
  · obtain ⟨_, _, _, _, _, _, _, _, _, rfl, _⟩ := h
    rfl
  obtain ⟨a, c, t, arms, len, lands, land, cell, cells, rfl, X, tA, tM, kQ⟩ := h
  refine ⟨_, pss_cons (ps_expr (pe_d (k := 7) DN hr (pa_cons (pv 0) (pa_cons (pv 1) pa_nil)))) (pss_one (ps_ret (pe_d (k := 3) DM (hr.mono (by decide)) (pa_cons (pv 0) (pa_cons (pv 1) pa_nil))))), ?_⟩
  refine ⟨_, rfl, _, rfl, a, c, t, arms, len, lands, land, cell, cells, rfl, X, tA, fun H' g => ?_⟩
  have X' := X.gw g
  exact ⟨_, rfl, _, rfl, a, c, t, arms, len, lands, land, cell, cells, rfl, X'.C, X'.G, X'.S, X'.hc, g.tab PM tM, fun H2 g2 => kQ H2 (g.trans g2)⟩

/-! ### all_takings, takings -/
def spAllTakings (K : PySem.W.Frag) (PA PM : Addr) : Sp := fun vs H Q _ => ∃ (a c : Addr) (arms len lands : Nat) (cells : List Nat), vs = [.ref a] ∧ ChAt K H a c arms cells ∧ Good arms len lands cells ∧ TabG H PM ∧
  ∀ H' p xs, Gw PA PM H H' → H p = none → H' p = some (.lst xs) → Prs K H' xs (tks arms len lands cells) → Q (.ref p) H'
theorem scAllTakings : FnScope ["chart", "found", "land", "cell"] ["chart"] (defScope sAllTakings) := ⟨rfl, rfl, rfl, by decide +kernel, rfl, by decide +kernel, by decide +kernel⟩
theorem tks_len {arms len lands : Nat} {cells : List Nat} (G : Good arms len lands cells) (n : Nat) (hn : n ≤ lands) : ((List.range n).flatMap fun l => tksOf arms len (arms * len + 1) cells l).length ≤ 17 * n := by
  induction n with
  | zero => simp
  | succ n ih =>
    have ih := ih (by omega)
    rw [List.range_succ, List.flatMap_append, List.length_append, List.flatMap_singleton]
    have h1 : (tksOf arms len (arms * len + 1) cells n).length ≤ 17 := by
      unfold tksOf
      rw [List.length_map]
      refine Nat.le_trans (List.length_filter_le _ _) ?_
      rw [List.length_range]
      exact isl_small G.isl
    omega
theorem ok_allTakings (F : Fun K "all_takings" "all_takings" sAllTakings f fd) (T : Txt mg) (DL : Dn P w K mg base CX0 1 "lands_of" ["chart"] (spLandsOf K)) (DM : Dn P w K mg base CX0 3 "is_made" ["chart", "taking"] (spIsMade K PA PM)) :
    FnOk P w K mg base CX0 4 f fd ["chart"] (spAllTakings K PA PM) := by
  refine F.ok scAllTakings (fun vs H Q E h => ?_) (fun cdv A outer s H vs Q E hr h => ?_)
  · obtain ⟨_, _, _, _, _, _, rfl, _⟩ := h
    rfl
  obtain ⟨a, c, arms, len, lands, cells, rfl, C, G, tM, kQ⟩ := h
  refine ⟨_, pss_cons (ps_set (i := 1) scAllTakings.nd rfl (Or.inl rfl) (pe_lst pa_nil))
    (pss_cons (ps_for PassesOwn.never rfl (pi_range1 (by rfl) T.range (pa_cons (pe_d (k := 1) DL (hr.mono (by decide)) (pa_cons (pv 0) pa_nil)) pa_nil)) (pg_name (i := 2) scAllTakings.nd rfl (Or.inr rfl))
      (pss_one (ps_set (i := 1) scAllTakings.nd rfl (Or.inl rfl) (pe_op op_cat (pv 1) (pe_lc (own := [("cell", 3)]) (g := gName 3) rfl scAllTakings.nd
        (pi_range1 (by rfl) T.range (pa_cons (pe_callB call_len_seq (by rfl) T.len bt_len (pa_cons (pe_ix ix_tup (pv 0) (pn 1) (fun _ _ => rfl)) pa_nil)) pa_nil))
        (blkOk_by (N := ["chart", "found", "land", "cell"]) (sc := defScope sAllTakings) (by decide +kernel)) (fun _ _ _ _ _ => pg_name (i := 3) scAllTakings.nd rfl (Or.inl rfl))
        (fun _ _ _ _ _ => pts_one (pt_val (pe_d (k := 3) DM hr (pa_cons (pv 0) (pa_cons (pe_tup (pa_cons (pv 2) (pa_cons (pv 3) pa_nil))) pa_nil)))))
        (fun _ _ _ _ _ => pe_tup (pa_cons (pv 2) (pa_cons (pv 3) pa_nil))))))))
    (pss_one (ps_ret (pv 1)))), ?_⟩
  have hz : (vN cells).length = arms * len + 1 := by rw [vN_len, G.sz]
  have h17 := isl_small G.isl
  have hlm := G.lm
  have hl4 := G.isl.l4
  refine ⟨Nat.zero_le _, fun p0 hp0 => ?_⟩
  refine ⟨_, rfl, a, c, arms, len, lands, cells, rfl, C.same (same_new hp0), G, _, rfl, by omega, by omega, for_range (lo := 0) (n := (lands : Int).toNat) (fun i σ H1 => ∃ (p : Addr) (v2 : Option V) (xs : List V), σ = [some (.ref a), some (.ref p), v2, none] ∧ Gw PA PM H H1 ∧ H p = none ∧ H1 p = some (.lst xs) ∧
    Prs K H1 xs ((List.range i).flatMap fun l => tksOf arms len (arms * len + 1) cells l)) ⟨p0, none, [], rfl, Gw.of (same_new hp0), hp0, upd_same, .nil⟩ ?_ ?_⟩
  · rintro i σ H1 hi ⟨p, v2, xs, rfl, g1, hp, e1, r1⟩
    rw [Int.zero_add]
    have C1 := C.gw g1
    have hil : i < lands := by omega
    refine ⟨_, rfl, _, rfl, _, _, _, _, rfl, rfl, C1.t, atI_nat (j := 1) rfl, _, _, rfl, .inr C1.c, _, rfl, by omega, by omega, fun D hD => ?_⟩
    have npD : p ≠ D := ne_of_none e1 hD
    refine lc_range (lo := 0) (n := ((vN cells).length : Int).toNat) (fun j H2 => Gw PA PM H1 H2 ∧ ∃ ys, H2 D = some (.lst ys) ∧ Prs K H2 ys (((List.range j).filter fun c => dec (Made arms len cells i c)).map fun c => (i, c))) ⟨gw_at hD (Gw.refl H1), [], upd_same, .nil⟩ ?_ ?_
    · rintro j H2 hj ⟨g2, ys, e2, r2⟩
      rw [Int.zero_add]
      have hjc : j < arms * len + 1 := by rw [hz] at hj; omega
      have C2 := C1.gw g2
      refine ⟨rfl, _, rfl, _, rfl, _, rfl, (by show 2 ≤ sizeLine; exact line_le (by decide)), fun q hq => ?_⟩
      have s3 := same_new (o := .tup [V.int (i : Nat), V.int (j : Nat)]) hq
      have g3 : Gw PA PM H1 (upd H2 q (.tup [V.int (i : Nat), V.int (j : Nat)])) := g2.trans (Gw.of s3)
      refine ⟨a, c, q, arms, len, lands, i, j, cells, rfl, C2.same s3, G, .inl (.inl upd_same), hjc, (g1.trans g3).tab PM tM, fun H3 g4 => ⟨_, rfl, ?_⟩⟩
      have g5 : Gw PA PM H2 H3 := (Gw.of s3).trans g4
      have e3 : H3 D = some (.lst ys) := g5.keep D _ e2 fun ps z => by cases z
      have er : (List.range (j + 1)).filter (fun c => dec (Made arms len cells i c)) = (List.range j).filter (fun c => dec (Made arms len cells i c)) ++ (if dec (Made arms len cells i j) = true then [j] else []) := by
        rw [List.range_succ, List.filter_append]
        cases h : dec (Made arms len cells i j) <;> simp [h]
      rw [er]
      cases h : dec (Made arms len cells i j) with
      | true =>
        refine iteT ⟨_, rfl, _, rfl, (by show 2 ≤ sizeLine; exact line_le (by decide)), fun q2 hq2 => ?_⟩
        have s6 := same_new (o := .tup [V.int (i : Nat), V.int (j : Nat)]) hq2
        have e6 : upd H3 q2 (.tup [V.int (i : Nat), V.int (j : Nat)]) D = some (.lst ys) := s6 D _ e3
        have r6 : Prs K (upd H3 q2 (.tup [V.int (i : Nat), V.int (j : Nat)])) ys (((List.range j).filter fun c => dec (Made arms len cells i c)).map fun c => (i, c)) := Prs.gw (PA := PA) (PM := PM) (g5.trans (Gw.of s6)) r2
        refine ⟨ys, e6, ?_, gw_at hD (g2.trans (g5.trans (Gw.of s6))), _, upd_same, ?_⟩
        · have hl := r2.length
          rw [hl, List.length_map]
          refine line_lt (Nat.le_trans (List.length_filter_le _ _) ?_)
          rw [List.length_range]
          omega
        · rw [if_pos rfl, List.map_append]
          exact Prs.upd (paired_app r6 (.cons ⟨q2, rfl, .inl (.inl upd_same)⟩ .nil)) e6
      | false =>
        refine iteF ⟨g2.trans g5, ys, e3, ?_⟩
        rw [if_neg (by decide), List.append_nil]
        exact r2.gw g5
    · rintro H2 ⟨g2, ys, e2, r2⟩
      have e2p : H2 p = some (.lst xs) := g2.keep p _ e1 fun ps z => by cases z
      have en : ((vN cells).length : Int).toNat = arms * len + 1 := by rw [hz]; omega
      rw [en] at r2
      have l1 : xs.length ≤ 17 * i := by rw [r1.length]; exact tks_len G i (by omega)
      have l2 := r2.length
      have l3 : (((List.range (arms * len + 1)).filter fun c => dec (Made arms len cells i c)).map fun c => (i, c)).length ≤ 17 := by
        rw [List.length_map]
        refine Nat.le_trans (List.length_filter_le _ _) ?_
        rw [List.length_range]
        exact h17
      refine ⟨p, D, xs, ys, rfl, rfl, e2p, e2, line_le (by omega), fun q hq => ?_⟩
      have s3 := same_new (o := .lst (xs ++ ys)) hq
      refine ⟨q, _, xs ++ ys, rfl, (g1.trans g2).trans (Gw.of s3), (g1.trans g2).free q hq, upd_same, ?_⟩
      rw [List.range_succ, List.flatMap_append, List.flatMap_singleton]
      exact paired_app (r1.gw (g2.trans (Gw.of s3))) (r2.gw (PA := PA) (PM := PM) (Gw.of s3))
  · rintro σ H1 ⟨p, v2, xs, rfl, g1, hp, e1, r1⟩
    have en : (lands : Int).toNat = lands := by omega
    rw [en] at r1
    exact ⟨_, rfl, kQ H1 p xs g1 hp e1 r1⟩
def spTakings (K : PySem.W.Frag) (PA PM : Addr) : Sp := fun vs H Q _ => ∃ (a c : Addr) (arms len lands : Nat) (cells : List Nat), vs = [.ref a] ∧ ChAt K H a c arms cells ∧ Good arms len lands cells ∧ TabG H PA ∧ TabG H PM ∧
  ∀ H' p xs, Gw PA PM H H' → H' p = some (.tup xs) → Prs K H' xs (tks arms len lands cells) → Q (.ref p) H'
theorem scTakings : FnScope ["chart"] ["chart"] (defScope sTakings) := ⟨rfl, rfl, rfl, by decide +kernel, rfl, by decide +kernel, by decide +kernel⟩
theorem ok_takings (F : Fun K "takings" "takings" sTakings f fd) (T : Txt mg) (DM : Dn P w K mg base CX0 6 "need_map" ["chart"] (spNeedMap K PA PM)) (DA : Dn P w K mg base CX0 4 "all_takings" ["chart"] (spAllTakings K PA PM)) :
    FnOk P w K mg base CX0 7 f fd ["chart"] (spTakings K PA PM) := by
  refine F.ok scTakings (fun vs H Q E h => ?_) (fun cdv A outer s H vs Q E hr h => ?_)
  · obtain ⟨_, _, _, _, _, _, rfl, _⟩ := h
    rfl
  obtain ⟨a, c, arms, len, lands, cells, rfl, C, G, tA, tM, kQ⟩ := h
  refine ⟨_, pss_cons (ps_expr (pe_d (k := 6) DM hr (pa_cons (pv 0) pa_nil))) (pss_one (ps_ret (pe_callTy call_tuple_of (by rfl) T.tuple bt_tuple (pa_cons (pe_d (k := 4) DA (hr.mono (by decide)) (pa_cons (pv 0) pa_nil)) pa_nil)))), ?_⟩
  refine ⟨_, rfl, a, c, arms, len, lands, cells, rfl, C, G, tA, fun H' g => ?_⟩
  refine ⟨_, rfl, a, c, arms, len, lands, cells, rfl, C.gw g, G, g.tab PM tM, fun H2 p xs g2 hp e2 r2 => ?_⟩
  refine ⟨p, xs, rfl, .inl ⟨.inl (.inl e2), fun q hq => ?_⟩⟩
  have s3 := same_new (o := .tup xs) hq
  exact kQ _ q xs ((g.trans g2).trans (Gw.of s3)) upd_same (r2.gw (PA := PA) (PM := PM) (Gw.of s3))
end
end SK
end

section
namespace SK
open PySem PySem.Spec PyProof.Rows L2 GxR SKG SKR
theorem cut_lo {xs : List V} {k : Nat} (h : k ≤ xs.length) : cutV xs none (some (k : Int)) = xs.take k := by
  unfold cutV
  rw [HT.sIx_none, HT.sIx_nat, List.drop_zero, Nat.sub_zero, Nat.min_eq_left h]
theorem cut_hi {xs : List V} {k : Nat} (h : k ≤ xs.length) : cutV xs (some (k : Int)) none = xs.drop k := by
  unfold cutV
  rw [HT.sIx_none, HT.sIx_nat, Nat.min_eq_left h, ← List.length_drop, List.take_length]
theorem last_split {α : Type} {xs : List α} {n : Nat} {x : α} (hl : xs.length = n + 1) (h : xs[n]? = some x) : xs = xs.take n ++ [x] := by
  have e : xs.take (n + 1) = xs := by rw [← hl, List.take_length]
  rw [← take_succ h, e]
theorem vN_set {cells : List Nat} {cell land : Nat} (h : cell < cells.length) : (vN cells).take cell ++ (V.int (land : Nat) :: ((vN cells).drop (cell + 1) ++ [])) = vN (cells.set cell land) := by
  rw [set_eq h, List.append_nil]
  unfold vN
  rw [List.map_append, List.map_cons, List.map_take, List.map_drop]
section
variable {P : Program} {w : World} {K : PySem.W.Frag} {mg : Str → Option Value} {base : Heap} {f : Addr} {fd : FuncData} {PA PM : Addr}

/-! ### taken -/
def spTaken (K : PySem.W.Frag) : Sp := fun vs H Q _ => ∃ (a c t : Addr) (arms land cell : Nat) (cells : List Nat), vs = [.ref a, .ref t] ∧ ChAt K H a c arms cells ∧ SqT K H t [.int (land : Nat), .int (cell : Nat)] ∧ cell < cells.length ∧ cells.length ≤ 1000 ∧
  ∀ H' p q, Same H H' → H p = none → H' p = some (.tup [.int arms, .ref q]) → H' q = some (.tup (vN (cells.set cell land))) → Q (.ref p) H'
theorem scTaken : FnScope ["chart", "taking", "land", "cell"] ["chart", "taking"] (defScope sTaken) := ⟨rfl, rfl, rfl, by decide +kernel, rfl, by decide +kernel, by decide +kernel⟩
theorem ok_taken (F : Fun K "taken" "taken" sTaken f fd) (T : Txt mg) : FnOk P w K mg base CX0 1 f fd ["chart", "taking"] (spTaken K) := by
  refine F.ok scTaken (fun vs H Q E h => ?_) (fun cdv A outer s H vs Q E hr h => ?_)
  · obtain ⟨_, _, _, _, _, _, _, rfl, _⟩ := h
    rfl
  obtain ⟨a, c, t, arms, land, cell, cells, rfl, C, S, hc, hz, kQ⟩ := h
  refine ⟨_, pss_cons (ps_asg (pv 1) (pg_tup (n := 2) rfl (pgs_cons (pg_name (i := 2) scTaken.nd rfl (Or.inl rfl)) (pgs_cons (pg_name (i := 3) scTaken.nd rfl (Or.inl rfl)) pgs_nil))))
    (pss_one (ps_ret (pe_tup (pa_cons (pe_ix ix_tup (pv 0) (pn 0) (fun _ _ => rfl)) (pa_cons (pe_tup (StX.pa_star (pe_slice sl_tupA (pe_ix ix_tup (pv 0) (pn 1) (fun _ _ => rfl)) po_none (po_some (pv 3)))
      (pa_cons (pv 2) (StX.pa_star (pe_slice sl_tupA (pe_ix ix_tup (pv 0) (pn 1) (fun _ _ => rfl)) (po_some (pe_op addK (pv 3) (pn 1))) po_none) pa_nil)))) pa_nil))))), ?_⟩
  have hl : (vN cells).length = cells.length := vN_len cells
  refine ⟨_, rfl, t, _, rfl, S, rfl, _, _, rfl, _, _, rfl, rfl, ?_⟩
  refine ⟨_, rfl, _, _, _, _, rfl, rfl, C.t, atI_nat (j := 0) rfl, _, rfl, _, _, _, _, rfl, rfl, C.t, atI_nat (j := 1) rfl, _, rfl, _, rfl, c, vN cells, rfl, C.c, fun hw => ?_, fun _ p1 hp1 => ?_⟩
  · obtain ⟨_, h2⟩ := hw
    rw [HT.sIx_nat, hl] at h2
    omega
  have s1 := same_new (o := .tup (cutV (vN cells) none (some (cell : Int)))) hp1
  have C1 := C.same s1
  refine ⟨p1, _, rfl, .inl (.inl (.inl upd_same)), _, rfl, _, rfl, _, _, _, _, rfl, rfl, C1.t, atI_nat (j := 1) rfl, _, rfl, _, _, rfl, rfl, _, rfl, c, vN cells, rfl, C1.c, fun hw => ?_, fun _ p2 hp2 => ?_⟩
  · obtain ⟨h1, _⟩ := hw
    rw [HT.sIx_nat, hl] at h1
    omega
  have s2 := same_new (o := .tup (cutV (vN cells) (some ((cell + 1 : Nat) : Int)) none)) hp2
  refine ⟨p2, _, rfl, .inl (.inl (.inl upd_same)), ?_⟩
  have e : cutV (vN cells) none (some (cell : Int)) ++ (V.int (land : Nat) :: (cutV (vN cells) (some ((cell + 1 : Nat) : Int)) none ++ [])) = vN (cells.set cell land) := by
    rw [cut_lo (by omega), cut_hi (by omega)]
    exact vN_set hc
  refine ⟨(by show (cutV (vN cells) none (some (cell : Int)) ++ (V.int (land : Nat) :: (cutV (vN cells) (some ((cell + 1 : Nat) : Int)) none ++ []))).length ≤ sizeLine; rw [e, vN_len, List.length_set]; exact line_le (by omega)), fun q hq => ?_⟩
  refine ⟨(by show 2 ≤ sizeLine; exact line_le (by decide)), fun p hp => ?_⟩
  have s3 := same_new (o := .tup (cutV (vN cells) none (some (cell : Int)) ++ (V.int (land : Nat) :: (cutV (vN cells) (some ((cell + 1 : Nat) : Int)) none ++ [])))) hq
  have s4 := same_new (o := .tup [V.int (arms : Nat), V.ref q]) hp
  have nqp : q ≠ p := ne_of_none (o := .tup (cutV (vN cells) none (some (cell : Int)) ++ (V.int (land : Nat) :: (cutV (vN cells) (some ((cell + 1 : Nat) : Int)) none ++ [])))) upd_same hp
  have s123 : Same H _ := (s1.trans s2).trans s3
  refine kQ _ p q (s123.trans s4) (s123.free hp) upd_same ?_
  rw [upd_ne nqp, upd_same]
  exact congrArg (fun z => some (HO.tup z)) e

/-! ### trace -/
def spTrace (K : PySem.W.Frag) (PA PM : Addr) : Sp := fun vs H Q _ => ∃ (a c r : Addr) (arms len lands : Nat) (cells : List Nat) (xs : List V) (ts : List (Nat × Nat)), vs = [.ref a, .ref r] ∧ ChAt K H a c arms cells ∧ Good arms len lands cells ∧ SqT K H r xs ∧ Prs K H xs ts ∧
  InAll lands (arms * len + 1) ts ∧ ts.length ≤ 1000 ∧ TabG H PM ∧
  ∀ H' p ys m, Gw PA PM H H' → H p = none → H' p = some (.lst ys) → m ≤ ts.length → MadeAll arms len cells (ts.take m) → (∀ t, ts[m]? = some t → ¬ Made arms len (fint cells (ts.take m)) t.1 t.2) → Chs K H' arms ys (pth cells (ts.take m)) → Q (.ref p) H'
theorem scTrace : FnScope ["chart", "row", "found", "taking"] ["chart", "row"] (defScope sTrace) := ⟨rfl, rfl, rfl, by decide +kernel, rfl, by decide +kernel, by decide +kernel⟩
theorem ok_trace (F : Fun K "trace" "trace" sTrace f fd) (DT : Dn P w K mg base CX0 2 "is_taking" ["chart", "value"] (spIsTaking K)) (DM : Dn P w K mg base CX0 3 "is_made" ["chart", "taking"] (spIsMade K PA PM)) (DK : Dn P w K mg base CX0 1 "taken" ["chart", "taking"] (spTaken K)) :
    FnOk P w K mg base CX0 4 f fd ["chart", "row"] (spTrace K PA PM) := by
  refine F.ok scTrace (fun vs H Q E h => ?_) (fun cdv A outer s H vs Q E hr h => ?_)
  · obtain ⟨_, _, _, _, _, _, _, _, _, rfl, _⟩ := h
    rfl
  obtain ⟨a, c, r, arms, len, lands, cells, xs, ts, rfl, C, G, S, R, hin, htl, tM, kQ⟩ := h
  refine ⟨_, pss_cons (ps_set (i := 2) scTrace.nd rfl (Or.inl rfl) (pe_lst (pa_cons (pv 0) pa_nil)))
    (pss_cons (ps_for PassesOwn.never rfl (pi_tup (pv 1)) (pg_name (i := 3) scTrace.nd rfl (Or.inl rfl))
      (pss_cons (ps_if (PW.pt (pw_or (pt_not (pt_val (pe_d (k := 2) DT (hr.mono (by decide)) (pa_cons (pe_ix ix_list (pv 2) (pe_un un_neg pe_int) (fun _ _ => rfl)) (pa_cons (pv 3) pa_nil)))))
          (pw_or1 (pt_not (pt_val (pe_d (k := 3) DM hr (pa_cons (pe_ix ix_list (pv 2) (pe_un un_neg pe_int) (fun _ _ => rfl)) (pa_cons (pv 3) pa_nil)))))))) (pss_one (ps_ret (pv 2))) pss_nil)
        (pss_one (ps_expr (pe_bm PySem.F.plainAttrs_list PySem.F.slot_list_append PySem.F.type_list_append mt_append (pv 2)
          (pa_cons (pe_d (k := 1) DK (hr.mono (by decide)) (pa_cons (pe_ix ix_list (pv 2) (pe_un un_neg pe_int) (fun _ _ => rfl)) (pa_cons (pv 3) pa_nil))) pa_nil))))))
    (pss_one (ps_ret (pv 2)))), ?_⟩
  refine ⟨_, rfl, (by show 1 ≤ sizeLine; exact line_le (by decide)), fun p hp => ?_⟩
  refine ⟨_, rfl, r, rfl, ⟨_, sqT_same (same_new hp) S⟩, for_tup (K := K) (a := r) (xs := xs) (fun i σ H1 => ∃ (v3 : Option V) (ys : List V), σ = [some (.ref a), some (.ref r), some (.ref p), v3] ∧ Gw PA PM H H1 ∧ H1 p = some (.lst ys) ∧ MadeAll arms len cells (ts.take i) ∧ Chs K H1 arms ys (pth cells (ts.take i)))
    ⟨none, [.ref a], rfl, Gw.of (same_new hp), upd_same, by rw [List.take_zero]; exact MadeAll.nil, .cons ⟨a, c, rfl, C.same (same_new hp)⟩ .nil⟩ (fun i σ H1 _ h => ?_) ?_ ?_⟩
  · obtain ⟨_, _, _, g, _⟩ := h
    exact sqT_gw g S
  · rintro i x σ H1 hx ⟨v3, ys, rfl, g1, e1, hM, hC⟩
    obtain ⟨t, ht, q, rfl, hq⟩ := paired_got R hx
    have hlt : i < ts.length := (List.getElem?_eq_some_iff.mp ht).1
    have htk : (ts.take i).length = i := by rw [List.length_take]; omega
    obtain ⟨y, hy, b, cb, rfl, Cb⟩ := paired_get hC (pth_at (ts.take i) cells)
    rw [htk] at hy
    have hyl : ys.length = i + 1 := by rw [hC.length, pth_len, htk]
    have hlast : atI ys (-1) = some (.ref b) := by rw [last_split hyl hy]; exact atI_last _ _
    have Gb : Good arms len lands (fint cells (ts.take i)) := hM.good G hin.take
    obtain ⟨ht1, ht2⟩ := hin t (List.mem_of_getElem? ht)
    have hq1 : SqT K H1 q [.int (t.1 : Nat), .int (t.2 : Nat)] := sqT_gw g1 hq
    refine ⟨_, rfl, _, rfl, _, _, _, _, rfl, rfl, .inl (.inl e1), hlast, _, rfl, b, cb, q, arms, len, lands, t.1, t.2, _, rfl, Cb, Gb, hq1, ht1, ht2, _, rfl, iteF ?_⟩
    refine ⟨_, rfl, _, rfl, _, _, _, _, rfl, rfl, .inl (.inl e1), hlast, _, rfl, b, cb, q, arms, len, lands, t.1, t.2, _, rfl, Cb, Gb, hq1, ht2, g1.tab PM tM, fun H2 g2 => ⟨_, rfl, ?_⟩⟩
    have g12 := g1.trans g2
    have e2 : H2 p = some (.lst ys) := g2.keep p _ e1 fun ps z => by cases z
    have hC2 := hC.gw g2
    by_cases hMt : Made arms len (fint cells (ts.take i)) t.1 t.2
    · refine ifF (by rw [dec_true hMt]; rfl) ?_
      refine ⟨_, rfl, .inl ⟨rfl, _, .inl (.inl e2)⟩, _, rfl, _, rfl, _, _, _, _, rfl, rfl, .inl (.inl e2), hlast, _, rfl, b, cb, q, arms, t.1, t.2, _, rfl, Cb.gw g2, sqT_gw g2 hq1, by rw [Gb.sz]; exact ht2, by rw [Gb.sz]; exact Nat.le_trans (isl_small G.isl) (by decide), fun H3 p3 q3 s3 hp3 e3 e3q => ?_⟩
      have e3p : H3 p = some (.lst ys) := s3 p _ e2
      refine ⟨_, _, _, rfl, rfl, e3p, by rw [hyl]; exact line_lt (by omega), ?_⟩
      have et : ts.take (i + 1) = ts.take i ++ [t] := take_snoc ht
      refine ⟨_, _, rfl, gw_at hp (g12.trans (Gw.of s3)), upd_same, by rw [et]; exact hM.snoc hMt, ?_⟩
      rw [et, pth_snoc, fint_snoc]
      refine Chs.upd (paired_app (hC2.gw (PA := PA) (PM := PM) (Gw.of s3)) (.cons ⟨p3, q3, rfl, ⟨.inl (.inl e3), .inl (.inl e3q)⟩⟩ .nil)) e3p
    · refine ifT (by rw [dec_false hMt]; rfl) ?_
      exact ⟨_, rfl, kQ H2 p ys i g12 hp e2 (by omega) hM (fun u hu => by rw [ht] at hu; cases hu; exact hMt) hC2⟩
  · rintro σ H1 ⟨v3, ys, rfl, g1, e1, hM, hC⟩
    have hxl : xs.length = ts.length := R.length
    rw [hxl] at hM hC
    exact ⟨_, rfl, kQ H1 p ys ts.length g1 hp e1 (Nat.le_refl _) hM (fun u hu => by simp at hu) hC⟩

/-! ### taken_back -/
def spTakenBack (K : PySem.W.Frag) (PA PM : Addr) : Sp := fun vs H Q _ => ∃ (a c t : Addr) (arms len lands land cell : Nat) (cells : List Nat), vs = [.ref a, .ref t] ∧ TkArgs K H a c t arms len lands land cell cells ∧ TabG H PA ∧ TabG H PM ∧ Made arms len cells land cell ∧
  ∀ H' p, Gw PA PM H H' → H' p = some (.tup [.int (at0 cells cell : Nat), .int (cell : Nat)]) → Q (.ref p) H'
theorem scTakenBack : FnScope ["chart", "taking"] ["chart", "taking"] (defScope sTakenBack) := ⟨rfl, rfl, rfl, by decide +kernel, rfl, by decide +kernel, by decide +kernel⟩
theorem ok_takenBack (F : Fun K "taken_back" "taken_back" sTakenBack f fd) (DN : Dn P w K mg base CX0 7 "need_taking" ["chart", "taking"] (spNeedTaking K PA PM)) (DM : Dn P w K mg base CX0 3 "is_made" ["chart", "taking"] (spIsMade K PA PM)) :
    FnOk P w K mg base CX0 8 f fd ["chart", "taking"] (spTakenBack K PA PM) := by
  refine F.ok scTakenBack (fun vs H Q E h => ?_) (fun cdv A outer s H vs Q E hr h => ?_)
  · obtain ⟨_, _, _, _, _, _, _, _, _, rfl, _⟩ := h
    rfl
  obtain ⟨a, c, t, arms, len, lands, land, cell, cells, rfl, X, tA, tM, hM, kQ⟩ := h
  refine ⟨_, pss_cons (ps_expr (pe_d (k := 7) DN hr (pa_cons (pv 0) (pa_cons (pv 1) pa_nil)))) (pss_cons (ps_if (pt_not (pt_val (pe_d (k := 3) DM (hr.mono (by decide)) (pa_cons (pv 0) (pa_cons (pv 1) pa_nil))))) pss_never pss_nil)
    (pss_one (ps_ret (pe_tup (pa_cons (pe_ix ix_tup (pe_ix ix_tup (pv 0) (pn 1) (fun _ _ => rfl)) (pe_ix ix_tup (pv 1) (pn 1) (fun _ _ => rfl)) (fun _ _ => rfl)) (pa_cons (pe_ix ix_tup (pv 1) (pn 1) (fun _ _ => rfl)) pa_nil)))))), ?_⟩
  refine ⟨_, rfl, _, rfl, a, c, t, arms, len, lands, land, cell, cells, rfl, X, tA, fun H' g => ?_⟩
  have X' := X.gw g
  refine ⟨_, rfl, _, rfl, a, c, t, arms, len, lands, land, cell, cells, rfl, X'.C, X'.G, X'.S, X'.hc, g.tab PM tM, fun H2 g2 => ⟨_, rfl, ifF (by rw [dec_true hM]; rfl) ?_⟩⟩
  have X2 := X'.gw g2
  have hcc : cell < cells.length := by rw [X.G.sz]; exact X.hc
  refine ⟨_, rfl, _, _, _, _, rfl, rfl, X2.C.t, atI_nat (j := 1) rfl, _, rfl, _, _, _, _, rfl, rfl, X2.S, atI_nat (j := 1) rfl, c, vN cells, _, _, rfl, rfl, X2.C.c, atI_nat (vN_get (get_at0 hcc)), _, rfl, _, _, _, _, rfl, rfl, X2.S, atI_nat (j := 1) rfl, (by show 2 ≤ sizeLine; exact line_le (by decide)), fun p hp => ?_⟩
  exact kQ _ p ((g.trans g2).trans (Gw.of (same_new hp))) upd_same
end
end SK
end

section
namespace SK
open PySem PySem.Spec PyProof.Rows L2 GxR SKG SKR
/-- a def that may raise, called; what leaves it is wished for -/
theorem pe_dx {X : Cx} {k : Nat} {x : Str} {ps : List Str} {sp : Sp} {p pos : Pos} {e : Expr} {es : List Expr} {t : TA} {W : WX} {E : XK} (F : Dn X.prog X.w X.K X.mg X.base (L2.CX X.prog X.w) k x ps sp) (hr : Room k X.A) (tk : Takes X W) (hW : ∀ cls d σ H, E cls d H → W cls d σ H) (ha : PA X (e :: es) t) (hg : Gl X x := by rfl)
    (hdb : (x == ("__debug__" : Str)) = false := by decide) (he : starEach (e :: es) X.env = (false, eval e X.env) :: starEach es X.env := by rfl) (hpl : (backTo pos (starEach es X.env)).any (·.1) = false := by rfl) :
    PE X (.Call (.Name x p) (e :: es) [] pos) (tCall sp [] E t) := by
  obtain ⟨f, fd, hm, hk, hb, G⟩ := F.ex
  exact pe_call G hr hg hm hk hb .nil (passes_call tk hW) ha hdb he hpl
theorem pe_dl {X : Cx} {k : Nat} {x : Str} {ps : List Str} {sp : Sp} {p pos : Pos} {e : Expr} {es : List Expr} {t : TA} (F : Dn X.prog X.w X.K X.mg X.base (L2.CX X.prog X.w) k x ps sp) (hr : Room k X.A) (ha : PA X (e :: es) t) (hg : Gl X x := by rfl)
    (hdb : (x == ("__debug__" : Str)) = false := by decide) (he : starEach (e :: es) X.env = (false, eval e X.env) :: starEach es X.env := by rfl) (hpl : (backTo pos (starEach es X.env)).any (·.1) = false := by rfl) :
    PE X (.Call (.Name x p) (e :: es) [] pos) (tCall sp [] E0 t) := by
  obtain ⟨f, fd, hm, hk, hb, G⟩ := F.ex
  exact pe_call G hr hg hm hk hb .nil passL ha hdb he hpl
/-- the error's class -/
structure RowC (K : PySem.W.Frag) (mg : Str → Option Value) (CB fI : Addr) : Prop where
  T : OexC K CB
  iC : PySem.W.findIn K (.ref CB) "__init__" = some (some (.ref fI))
  tI : PySem.W.typeIn K (.ref fI) = some (.type "function")
  no : PySem.W.findIn K (.ref CB) "index" = some none
  m : mg "BadRow" = some (.ref CB)
section
variable {P : Program} {w : World} {K : PySem.W.Frag} {mg : Str → Option Value} {base : Heap} {f fI CB : Addr} {fd fdI : FuncData} {PA PM : Addr}

/-! ### BadRow.__init__ -/
def spRowInit (K : PySem.W.Frag) : Sp := fun vs H Q _ => ∃ (a C : Addr) (v : V), vs = [.ref a, v] ∧ OexC K C ∧ PySem.W.findIn K (.ref C) "index" = some none ∧ H a = some (exo a C none) ∧
  ∀ dx, H dx = none → dx ≠ a → Q .non (upd (upd H dx (exd dx [("index", v)])) a (exo a C (some dx)))
theorem scRowInit : FnScope ["self", "index"] ["self", "index"] (defScope sRowInit) := ⟨rfl, rfl, rfl, by decide +kernel, rfl, by decide +kernel, by decide +kernel⟩
theorem ok_rowInit (F : Fun K "__init__" "BadRow.__init__" sRowInit f fd) : FnOk P w K mg base CX0 1 f fd ["self", "index"] (spRowInit K) := by
  refine F.ok scRowInit (fun vs H Q E h => ?_) (fun cdv A outer s H vs Q E hr h => ?_)
  · obtain ⟨_, _, _, rfl, _⟩ := h
    rfl
  obtain ⟨a, C, v, rfl, T, no, ha, kQ⟩ := h
  refine ⟨_, pss_one (ps_ost (pv 0) (pv 1)), ?_⟩
  exact ⟨_, rfl, _, rfl, a, C, rfl, T, no, .inl ⟨ha, fun dx hd hne => kQ dx hd hne⟩⟩

/-! ### need_row -/
structure RwArgs (K : PySem.W.Frag) (H : Hp) (a c r : Addr) (arms len lands : Nat) (cells : List Nat) (xs : List V) (ts : List (Nat × Nat)) : Prop where
  C : ChAt K H a c arms cells
  G : Good arms len lands cells
  S : SqT K H r xs
  R : Prs K H xs ts
  hin : InAll lands (arms * len + 1) ts
  h40 : ts.length ≤ 40
theorem RwArgs.gw {H H' : Hp} {a c r : Addr} {arms len lands : Nat} {cells : List Nat} {xs : List V} {ts : List (Nat × Nat)} (h : RwArgs K H a c r arms len lands cells xs ts) (e : Gw PA PM H H') : RwArgs K H' a c r arms len lands cells xs ts := ⟨h.C.gw e, h.G, sqT_gw e h.S, h.R.gw e, h.hin, h.h40⟩
/-- what is wanted where the row is bent at m -/
def Bent (arms len : Nat) (cells : List Nat) (ts : List (Nat × Nat)) (PA PM CB : Addr) (H : Hp) (E : XK) : Prop := ∀ H' d m, Gw PA PM H H' → H' d = some (.xd [("index", .int (m : Nat))]) → m < ts.length → MadeAll arms len cells (ts.take m) → (∀ t, ts[m]? = some t → ¬ Made arms len (fint cells (ts.take m)) t.1 t.2) → E (.ref CB) (some d) H'
def spNeedRow (K : PySem.W.Frag) (PA PM CB : Addr) : Sp := fun vs H Q E => ∃ (a c r : Addr) (arms len lands : Nat) (cells : List Nat) (xs : List V) (ts : List (Nat × Nat)), vs = [.ref a, .ref r] ∧ RwArgs K H a c r arms len lands cells xs ts ∧ TabG H PA ∧ TabG H PM ∧
  (∀ H', Gw PA PM H H' → MadeAll arms len cells ts → Q .non H') ∧ Bent arms len cells ts PA PM CB H E
theorem scNeedRow : FnScope ["chart", "row", "made"] ["chart", "row"] (defScope sNeedRow) := ⟨rfl, rfl, rfl, by decide +kernel, rfl, by decide +kernel, by decide +kernel⟩
theorem ok_needRow (F : Fun K "need_row" "need_row" sNeedRow f fd) (T : Txt mg) (B : RowC K mg CB fI) (FI : Fun K "__init__" "BadRow.__init__" sRowInit fI fdI) (bI : Binds K fdI ["self", "index"] []) (DM : Dn P w K mg base CX0 6 "need_map" ["chart"] (spNeedMap K PA PM)) (DT : Dn P w K mg base CX0 4 "trace" ["chart", "row"] (spTrace K PA PM)) :
    FnOk P w K mg base (L2.CX P w) 7 f fd ["chart", "row"] (spNeedRow K PA PM CB) := by
  have GI : FnOk P w K mg base CX0 1 fI fdI ["self", "index"] (spRowInit K) := ok_rowInit FI
  refine F.okX scNeedRow (fun vs H Q E h => ?_) (fun cdv A outer s H vs Q E hr h => ?_)
  · obtain ⟨_, _, _, _, _, _, _, _, _, rfl, _⟩ := h
    rfl
  obtain ⟨a, c, r, arms, len, lands, cells, xs, ts, rfl, X, tA, tM, kQ, kE⟩ := h
  obtain ⟨tmr, hmr⟩ := T.mr
  refine ⟨_, pss_cons (ps_expr (pe_d (k := 6) DM hr (pa_cons (pv 0) pa_nil)))
    (pss_cons (ps_if (PW.pt (pw_or (pt_not (pt_val (pe_callB call_isi (by rfl) T.isi bt_isi (pa_cons (pv 1) (pa_cons (pe_bltn (v := .ty "tuple") (by rfl) T.tuple bt_tuple rfl) pa_nil)))))
        (pw_or1 (pt_cmpR gtK (pe_callB call_len_seq (by rfl) T.len bt_len (pa_cons (pv 1) pa_nil)) (pe_glob (v := .int ((40 : Nat) : Int)) rfl hmr ⟨_, rfl⟩) (nomark _))))) pss_never pss_nil)
    (pss_cons (ps_set (i := 2) scNeedRow.nd rfl (Or.inl rfl) (pe_d (k := 4) DT (hr.mono (by decide)) (pa_cons (pv 0) (pa_cons (pv 1) pa_nil))))
    (pss_one (ps_if (pt_cmpR leK (pe_callB call_len_seq (by rfl) T.len bt_len (pa_cons (pv 2) pa_nil)) (pe_callB call_len_seq (by rfl) T.len bt_len (pa_cons (pv 1) pa_nil)) (nomark _))
      (pss_one (ps_raise rfl (takes_of rfl rfl rfl rfl) (pmk_oex (k := 1) B.T B.iC B.tI GI (hr.mono (by decide)) bI .nil pass0 (by rfl) B.m (pa_cons (pe_op subK (pe_callB call_len_seq (by rfl) T.len bt_len (pa_cons (pv 2) pa_nil)) (pn 1)) pa_nil)))) pss_nil)))), ?_⟩
  refine ⟨_, rfl, a, c, arms, len, lands, cells, rfl, X.C, X.G, tA, fun H1 g1 => ?_⟩
  have X1 := X.gw g1
  have hxl : xs.length = ts.length := X.R.length
  have h40 := X.h40
  refine ⟨_, rfl, _, _, _, _, true, rfl, .ty "tuple", tyx_of X1.S, kit_ty (by decide +kernel), _, rfl, iteF ?_⟩
  refine ⟨_, rfl, _, _, rfl, .inr X1.S, _, 40, rfl, rfl, _, rfl, ifF (decide_eq_false (by omega)) ?_⟩
  refine ⟨_, rfl, _, rfl, a, c, r, arms, len, lands, cells, xs, ts, rfl, X1.C, X1.G, X1.S, X1.R, X.hin, by omega, g1.tab PM tM, fun H2 p ys m g2 hp e2 hm hM hno hC => ?_⟩
  have g12 := g1.trans g2
  have hyl : ys.length = m + 1 := by rw [hC.length, pth_len, List.length_take]; omega
  have S2 := sqT_gw g2 X1.S
  refine ⟨_, rfl, _, _, rfl, .inl (.inl (.inl e2)), _, rfl, _, _, rfl, .inr S2, _, _, rfl, rfl, _, rfl, ?_⟩
  by_cases hlt : m < ts.length
  · refine ifT (decide_eq_true (by omega)) ?_
    refine ⟨_, rfl, _, _, rfl, .inl (.inl (.inl e2)), _, 1, rfl, rfl, (by omega : 1 ≤ ys.length), (by show 1 ≤ 1000; decide), fun b hb => ?_⟩
    refine ⟨b, CB, _, rfl, B.T, B.no, upd_same, fun dx hdx hne => ⟨rfl, dx, _, upd_same, by rw [upd_ne hne, upd_same], ?_, ?_⟩⟩
    · rw [upd_ne hne] at hdx
      exact hdx
    · rw [upd_ne hne] at hdx
      have em : ys.length - 1 = m := by omega
      refine kE _ dx m ?_ ?_ hlt hM hno
      · refine g12.trans (Gw.of fun x u hx => ?_)
        have n1 : x ≠ b := ne_of_none hx hb
        have n2 : x ≠ dx := ne_of_none hx hdx
        rw [upd_ne n2, del_ne n1, upd_ne n1, upd_ne n2, upd_ne n1]
        exact hx
      · rw [upd_same]
        exact congrArg (fun z : Nat => some (HO.xd [("index", V.int (z : Nat))])) em
  · refine ifF (decide_eq_false (by omega)) ?_
    have e : m = ts.length := by omega
    rw [e, List.take_length] at hM
    exact kQ H2 g12 hM

/-! ### done, traced -/
def spDone (K : PySem.W.Frag) (PA PM CB : Addr) : Sp := fun vs H Q E => ∃ (a c r : Addr) (arms len lands : Nat) (cells : List Nat) (xs : List V) (ts : List (Nat × Nat)), vs = [.ref a, .ref r] ∧ RwArgs K H a c r arms len lands cells xs ts ∧ TabG H PA ∧ TabG H PM ∧
  (∀ H' b cb, Gw PA PM H H' → MadeAll arms len cells ts → ChAt K H' b cb arms (fint cells ts) → Q (.ref b) H') ∧ Bent arms len cells ts PA PM CB H E
theorem scDone : FnScope ["chart", "row"] ["chart", "row"] (defScope sDone) := ⟨rfl, rfl, rfl, by decide +kernel, rfl, by decide +kernel, by decide +kernel⟩
theorem madeAll_end {arms len m : Nat} {cells : List Nat} {ts : List (Nat × Nat)} (h : MadeAll arms len cells ts) (hm : m ≤ ts.length) (hno : ∀ t, ts[m]? = some t → ¬ Made arms len (fint cells (ts.take m)) t.1 t.2) : m = ts.length := by
  rcases Nat.lt_or_ge m ts.length with z | z
  · have e : ts[m]? = some ts[m] := List.getElem?_eq_getElem z
    exact absurd (h m _ e) (hno _ e)
  · omega
theorem ok_done (F : Fun K "done" "done" sDone f fd) (DR : Dn P w K mg base (L2.CX P w) 7 "need_row" ["chart", "row"] (spNeedRow K PA PM CB)) (DT : Dn P w K mg base CX0 4 "trace" ["chart", "row"] (spTrace K PA PM)) :
    FnOk P w K mg base (L2.CX P w) 8 f fd ["chart", "row"] (spDone K PA PM CB) := by
  refine F.okX scDone (fun vs H Q E h => ?_) (fun cdv A outer s H vs Q E hr h => ?_)
  · obtain ⟨_, _, _, _, _, _, _, _, _, rfl, _⟩ := h
    rfl
  obtain ⟨a, c, r, arms, len, lands, cells, xs, ts, rfl, X, tA, tM, kQ, kE⟩ := h
  refine ⟨_, pss_cons (ps_expr (pe_dx (k := 7) (E := E) DR hr (takes_of rfl rfl rfl rfl) (fun _ _ _ _ h => h) (pa_cons (pv 0) (pa_cons (pv 1) pa_nil))))
    (pss_one (ps_ret (pe_ix ix_list (pe_d (k := 4) DT (hr.mono (by decide)) (pa_cons (pv 0) (pa_cons (pv 1) pa_nil))) (pe_un un_neg pe_int) (fun _ _ => rfl)))), ?_⟩
  refine ⟨_, rfl, _, rfl, a, c, r, arms, len, lands, cells, xs, ts, rfl, X, tA, tM, fun H1 g1 hM => ?_, kE⟩
  have X1 := X.gw g1
  have h40 := X.h40
  refine ⟨_, rfl, _, rfl, a, c, r, arms, len, lands, cells, xs, ts, rfl, X1.C, X1.G, X1.S, X1.R, X.hin, by omega, g1.tab PM tM, fun H2 p ys m g2 hp e2 hm hM2 hno hC => ?_⟩
  have e : m = ts.length := madeAll_end hM hm hno
  rw [e, List.take_length] at hC
  obtain ⟨y, hy, b, cb, rfl, Cb⟩ := paired_get hC (pth_at ts cells)
  have hyl : ys.length = ts.length + 1 := by rw [hC.length, pth_len]
  have hlast : atI ys (-1) = some (.ref b) := by rw [last_split hyl hy]; exact atI_last _ _
  exact ⟨_, rfl, _, _, _, _, rfl, rfl, .inl (.inl e2), hlast, kQ H2 b cb (g1.trans g2) hM Cb⟩
def spTraced (K : PySem.W.Frag) (PA PM : Addr) : Sp := fun vs H Q E => ∃ (a c r : Addr) (arms len lands : Nat) (cells : List Nat) (xs : List V) (ts : List (Nat × Nat)), vs = [.ref a, .ref r] ∧ RwArgs K H a c r arms len lands cells xs ts ∧ TabG H PA ∧ TabG H PM ∧ MadeAll arms len cells ts ∧
  (∀ H' p ys, Gw PA PM H H' → H' p = some (.tup ys) → Chs K H' arms ys (pth cells ts) → Q (.ref p) H')
theorem scTraced : FnScope ["chart", "row"] ["chart", "row"] (defScope sTraced) := ⟨rfl, rfl, rfl, by decide +kernel, rfl, by decide +kernel, by decide +kernel⟩
theorem ok_traced (F : Fun K "traced" "traced" sTraced f fd) (T : Txt mg) (DR : Dn P w K mg base (L2.CX P w) 7 "need_row" ["chart", "row"] (spNeedRow K PA PM CB)) (DT : Dn P w K mg base CX0 4 "trace" ["chart", "row"] (spTrace K PA PM)) :
    FnOk P w K mg base CX0 8 f fd ["chart", "row"] (spTraced K PA PM) := by
  refine F.ok scTraced (fun vs H Q E h => ?_) (fun cdv A outer s H vs Q E hr h => ?_)
  · obtain ⟨_, _, _, _, _, _, _, _, _, rfl, _⟩ := h
    rfl
  obtain ⟨a, c, r, arms, len, lands, cells, xs, ts, rfl, X, tA, tM, hM, kQ⟩ := h
  refine ⟨_, pss_cons (ps_expr (pe_dl (k := 7) DR hr (pa_cons (pv 0) (pa_cons (pv 1) pa_nil))))
    (pss_one (ps_ret (pe_callTy call_tuple_of (by rfl) T.tuple bt_tuple (pa_cons (pe_d (k := 4) DT (hr.mono (by decide)) (pa_cons (pv 0) (pa_cons (pv 1) pa_nil))) pa_nil)))), ?_⟩
  refine ⟨_, rfl, _, rfl, a, c, r, arms, len, lands, cells, xs, ts, rfl, X, tA, tM, fun H1 g1 _ => ?_, fun H' d m _ _ hm _ hno => ?_⟩
  · have X1 := X.gw g1
    have h40 := X.h40
    refine ⟨_, rfl, _, rfl, a, c, r, arms, len, lands, cells, xs, ts, rfl, X1.C, X1.G, X1.S, X1.R, X.hin, by omega, g1.tab PM tM, fun H2 p ys m g2 hp e2 hm hM2 hno hC => ?_⟩
    have e : m = ts.length := madeAll_end hM hm hno
    rw [e, List.take_length] at hC
    refine ⟨p, ys, rfl, .inl ⟨.inl (.inl e2), fun q hq => ?_⟩⟩
    have s3 := same_new (o := .tup ys) hq
    exact kQ _ q ys ((g1.trans g2).trans (Gw.of s3)) upd_same (hC.gw (PA := PA) (PM := PM) (Gw.of s3))
  · have e := madeAll_end hM (Nat.le_of_lt hm) hno
    omega
end
end SK
end

section
namespace SK
open PySem PySem.Spec PyProof.Rows L2 GxR SKG SKR
section
variable {P : Program} {w : World} {K : PySem.W.Frag} {mg : Str → Option Value} {base : Heap} {f : Addr} {fd : FuncData} {PA PM : Addr}

/-! ### _law_taken -/
abbrev rowO (sc : Addr) (i : Nat) (x z : Int) : HO := .lst [.ref sc, .int (i : Nat), .int x, .int z]
/-- a list that stands in the written part -/
def KL (K : PySem.W.Frag) (a : Addr) (xs : List V) : Prop := ∃ (o : Obj) (its : Array Value) (n : Nat), K.lookup a = some o ∧ o.cls = .type "list" ∧ o.dict = none ∧ o.data = .seq its n ∧ its.size ≤ sizeLine ∧ Vals xs its.toList
theorem sq_rw {K : PySem.W.Frag} {H : Hp} {a r : Addr} {xs : List V} {o : HO} (h : SqL K H a xs) (ne : KL K a xs ∨ a ≠ r) : SqL K (upd H r o) a xs := ne.elim (fun k => .inr k) fun n => sqL_upd h n
/-- the row of draws -/
structure Rw (K : PySem.W.Frag) (H : Hp) (r sc : Addr) (ns : List Int) : Prop where
  ex : ∃ (i : Nat) (x z : Int), H r = some (rowO sc i x z) ∧ 0 ≤ x ∧ x < 2147483647
  S : SqL K H sc (ns.map V.int)
  ne : KL K sc (ns.map V.int) ∨ sc ≠ r
  len : ns.length ≤ 63
/-- behind some draws -/
structure Dr (r sc : Addr) (H H' : Hp) : Prop where
  ex : ∃ (i : Nat) (x z : Int), H' = upd H r (rowO sc i x z) ∧ 0 ≤ x ∧ x < 2147483647
theorem Dr.rw {r sc : Addr} {ns : List Int} {H H' : Hp} (d : Dr r sc H H') (h : Rw K H r sc ns) : Rw K H' r sc ns := by
  obtain ⟨i, x, z, rfl, h1, h2⟩ := d.ex
  exact ⟨⟨i, x, z, upd_same, h1, h2⟩, sq_rw h.S h.ne, h.ne, h.len⟩
def spLTaken (K : PySem.W.Frag) : Sp := fun vs H Q _ => ∃ (r sc : Addr) (ns : List Int) (many : Nat), vs = [.ref r, .int (many : Nat)] ∧ Rw K H r sc ns ∧ 1 ≤ many ∧ many ≤ 1000 ∧ ∀ n H', n < many → Dr r sc H H' → Q (.int (n : Nat)) H'
theorem scLTaken : FnScope ["_law_row", "_law_many", "_law_found", "_law_cell"] ["_law_row", "_law_many"] (defScope sLTaken) := ⟨rfl, rfl, rfl, by decide +kernel, rfl, by decide +kernel, by decide +kernel⟩
theorem ok_lTaken (F : Fun K "_law_taken" "_law_taken" sLTaken f fd) (T : Txt mg) : FnOk P w K mg base CX0 1 f fd ["_law_row", "_law_many"] (spLTaken K) := by
  refine F.ok scLTaken (fun vs H Q E h => ?_) (fun cdv A outer s H vs Q E hr h => ?_)
  · obtain ⟨_, _, _, _, rfl, _⟩ := h
    rfl
  obtain ⟨r, sc, ns, many, rfl, R, hm1, hm2, kQ⟩ := h
  refine ⟨_, pss_cons (ps_if (pt_cmpR op_gt (pe_ix ix_list (pv 0) (pn 3) (fun _ _ => rfl)) pe_int (nomark _))
      (pss_cons (ps_set (i := 2) scLTaken.nd rfl (Or.inl rfl) (pe_op op_mod (pe_callTy call_int1 (by rfl) T.int bt_int (pa_cons (pe_ix ix_list (pv 0) (pn 3) (fun _ _ => rfl)) pa_nil)) (pv 1)))
      (pss_cons (ps_asg (pe_op op_fdivN (pe_ix ix_list (pv 0) (pn 3) (fun _ _ => rfl)) (pv 1)) (pg_sub (pv 0) (pn 3) set_list))
      (pss_one (ps_ret (pv 2))))) pss_nil)
    (pss_cons (ps_asg (pe_op addK (pe_ix ix_list (pv 0) (pn 1) (fun _ _ => rfl)) (pn 1)) (pg_sub (pv 0) (pn 1) set_list))
    (pss_cons (ps_if (pt_cmpR gtK (pe_ix ix_list (pv 0) (pn 1) (fun _ _ => rfl)) (pe_callB call_len_seq (by rfl) T.len bt_len (pa_cons (pe_ix ix_list (pv 0) (pn 0) (fun _ _ => rfl)) pa_nil)) (nomark _))
      (pss_cons (ps_asg (pe_op op_mod (pe_callTy call_int1 (by rfl) T.int bt_int (pa_cons (pe_op op_add (pe_op op_mul (pe_ix ix_list (pv 0) (pn 2) (fun _ _ => rfl)) pe_int) pe_int) pa_nil)) pe_int) (pg_sub (pv 0) (pn 2) set_list))
      (pss_one (ps_ret (pe_op op_mod (pe_callTy call_int1 (by rfl) T.int bt_int (pa_cons (pe_op op_fdivN (pe_ix ix_list (pv 0) (pn 2) (fun _ _ => rfl)) pe_int) pa_nil)) (pv 1))))) pss_nil)
    (pss_cons (ps_set (i := 3) scLTaken.nd rfl (Or.inl rfl) (pe_ix ix_list (pe_ix ix_list (pv 0) (pn 0) (fun _ _ => rfl)) (pe_op subK (pe_ix ix_list (pv 0) (pn 1) (fun _ _ => rfl)) (pn 1)) (fun _ _ => rfl)))
    (pss_cons (ps_asg (pe_op op_mod (pe_callTy call_int1 (by rfl) T.int bt_int (pa_cons (pe_op op_add (pe_op op_add (pe_op op_mul (pe_ix ix_list (pv 0) (pn 2) (fun _ _ => rfl)) pe_int) (pv 3)) pe_int) pa_nil)) pe_int) (pg_sub (pv 0) (pn 2) set_list))
    (pss_cons (ps_if (pt_cmpR op_ge (pv 3) (pe_op op_pow pe_int pe_int) (nomark _)) (pss_one (ps_asg (pe_op op_fdivN (pv 3) (pv 1)) (pg_sub (pv 0) (pn 3) set_list))) pss_nil)
    (pss_one (ps_ret (pe_op op_mod (pe_callTy call_int1 (by rfl) T.int bt_int (pa_cons (pv 3) pa_nil)) (pv 1))))))))), ?_⟩
  obtain ⟨⟨i, x, z, hrow, hx0, hx1⟩, hS, hne, hlen⟩ := R
  have hmp : (0 : Int) < (many : Int) := by omega
  have hmany : ((many : Int) ≠ 0 ∧ (many : Int).natAbs < 1073741824) := ⟨by omega, by omega⟩
  have fin : ∀ (a : Int) H', Dr r sc H H' → Q (.int (a % (many : Int))) H' := fun a H' d => by
    have h0 : 0 ≤ a % (many : Int) := Int.emod_nonneg _ (by omega)
    have h1 : a % (many : Int) < many := Int.emod_lt_of_pos _ hmp
    have e : a % (many : Int) = (((a % (many : Int)).toNat : Nat) : Int) := by omega
    rw [e]
    exact kQ _ H' (by omega) d
  refine ⟨_, rfl, _, _, _, _, rfl, rfl, .inl (.inl hrow), atI_nat (j := 3) rfl, _, _, rfl, rfl, _, rfl, ?_⟩
  by_cases hz : (0 : Int) < z
  · refine ifT (decide_eq_true hz) ?_
    refine ⟨_, rfl, _, _, _, _, rfl, rfl, .inl (.inl hrow), atI_nat (j := 3) rfl, .inl ⟨_, rfl, _, rfl, _, _, rfl, rfl, hmp, ?_⟩⟩
    refine ⟨_, rfl, _, _, _, _, rfl, rfl, .inl (.inl hrow), atI_nat (j := 3) rfl, _, rfl, _, _, rfl, rfl, hmany, _, rfl, r, _, _, 3, rfl, rfl, hrow, rfl, ?_⟩
    exact ⟨_, rfl, fin z _ ⟨⟨i, x, z.fdiv many, rfl, hx0, hx1⟩⟩⟩
  refine ifF (decide_eq_false hz) ?_
  refine ⟨_, rfl, _, _, _, _, rfl, rfl, .inl (.inl hrow), atI_nat (j := 1) rfl, _, _, rfl, rfl, _, rfl, r, _, _, 1, rfl, rfl, hrow, rfl, ?_⟩
  have h1 : upd H r (rowO sc (i + 1) x z) r = some (rowO sc (i + 1) x z) := upd_same
  have S1 : SqL K (upd H r (rowO sc (i + 1) x z)) sc (ns.map V.int) := sq_rw hS hne
  refine ⟨_, rfl, _, _, _, _, rfl, rfl, .inl (.inl h1), atI_nat (j := 1) rfl, _, rfl, _, _, _, _, rfl, rfl, .inl (.inl h1), atI_nat (j := 0) rfl, _, _, rfl, .inl S1, _, _, rfl, rfl, _, rfl, ?_⟩
  by_cases hi : (ns.map V.int).length < i + 1
  · refine ifT (decide_eq_true hi) ?_
    refine ⟨_, rfl, _, _, _, _, rfl, rfl, .inl (.inl h1), atI_nat (j := 2) rfl, _, _, rfl, rfl, .inl ⟨by omega, by omega⟩, _, _, rfl, rfl, .inl ⟨_, rfl, _, _, rfl, rfl, (by show (0 : Int) < 2147483647; decide), _, rfl, r, _, _, 2, rfl, rfl, h1, rfl, ?_⟩⟩
    have h2 : upd (upd H r (rowO sc (i + 1) x z)) r (rowO sc (i + 1) ((x * 48271 + 11) % 2147483647) z) r = some (rowO sc (i + 1) ((x * 48271 + 11) % 2147483647) z) := upd_same
    refine ⟨_, rfl, _, _, _, _, rfl, rfl, .inl (.inl h2), atI_nat (j := 2) rfl, _, _, rfl, rfl, ⟨by decide, by decide⟩, .inl ⟨_, rfl, _, rfl, _, _, rfl, rfl, hmp, ?_⟩⟩
    refine fin _ _ ⟨⟨i + 1, (x * 48271 + 11) % 2147483647, z, ?_, by omega, by omega⟩⟩
    show upd (upd H r (rowO sc (i + 1) x z)) r (rowO sc (i + 1) ((x * 48271 + 11) % 2147483647) z) = _
    rw [upd_upd]
  refine ifF (decide_eq_false hi) ?_
  have hil : i < (ns.map V.int).length := by omega
  obtain ⟨cl, hcl⟩ : ∃ cl : Int, (ns.map V.int)[i]? = some (V.int cl) := by
    rw [List.length_map] at hil
    exact ⟨ns[i], by rw [List.getElem?_map, List.getElem?_eq_getElem hil]; rfl⟩
  refine ⟨_, rfl, _, _, _, _, rfl, rfl, .inl (.inl h1), atI_nat (j := 0) rfl, _, rfl, _, _, _, _, rfl, rfl, .inl (.inl h1), atI_nat (j := 1) rfl, i + 1, 1, rfl, rfl, (by omega : 1 ≤ i + 1), sc, _, _, V.int cl, rfl, rfl, S1, atI_nat (j := i + 1 - 1) (by rw [Nat.add_sub_cancel]; exact hcl), ?_⟩
  refine ⟨_, rfl, _, _, _, _, rfl, rfl, .inl (.inl h1), atI_nat (j := 2) rfl, _, _, rfl, rfl, .inl ⟨by omega, by omega⟩, _, rfl, _, _, rfl, rfl, _, _, rfl, rfl, .inl ⟨_, rfl, _, _, rfl, rfl, (by show (0 : Int) < 2147483647; decide), _, rfl, r, _, _, 2, rfl, rfl, h1, rfl, ?_⟩⟩
  have h2 : upd (upd H r (rowO sc (i + 1) x z)) r (rowO sc (i + 1) ((x * 48271 + cl + 11) % 2147483647) z) r = some (rowO sc (i + 1) ((x * 48271 + cl + 11) % 2147483647) z) := upd_same
  refine ⟨_, rfl, _, _, rfl, rfl, ⟨by decide, by decide, by decide⟩, _, _, rfl, rfl, _, rfl, ?_⟩
  by_cases hb : (10 : Int) ^ (18 : Int).toNat ≤ cl
  · refine ifT (decide_eq_true hb) ?_
    refine ⟨_, rfl, _, rfl, _, _, rfl, rfl, hmany, _, rfl, r, _, _, 3, rfl, rfl, h2, rfl, ?_⟩
    refine ⟨_, rfl, .inl ⟨_, rfl, _, rfl, _, _, rfl, rfl, hmp, ?_⟩⟩
    refine fin _ _ ⟨⟨i + 1, (x * 48271 + cl + 11) % 2147483647, cl.fdiv many, ?_, by omega, by omega⟩⟩
    show upd (upd (upd H r (rowO sc (i + 1) x z)) r (rowO sc (i + 1) ((x * 48271 + cl + 11) % 2147483647) z)) r (rowO sc (i + 1) ((x * 48271 + cl + 11) % 2147483647) (cl.fdiv many)) = _
    rw [upd_upd, upd_upd]
  · refine ifF (decide_eq_false hb) ?_
    refine ⟨_, rfl, .inl ⟨_, rfl, _, rfl, _, _, rfl, rfl, hmp, ?_⟩⟩
    refine fin _ _ ⟨⟨i + 1, (x * 48271 + cl + 11) % 2147483647, z, ?_, by omega, by omega⟩⟩
    show upd (upd H r (rowO sc (i + 1) x z)) r (rowO sc (i + 1) ((x * 48271 + cl + 11) % 2147483647) z) = _
    rw [upd_upd]

/-! ### _law_pick -/
def spLPick (K : PySem.W.Frag) : Sp := fun vs H Q _ => ∃ (r sc t : Addr) (ns : List Int) (xs : List V), vs = [.ref r, .ref t] ∧ Rw K H r sc ns ∧ SqL K H t xs ∧ t ≠ r ∧ 1 ≤ xs.length ∧ xs.length ≤ 1000 ∧ ∀ (i : Nat) (x : V) (H' : Hp), xs[i]? = some x → Dr r sc H H' → Q x H'
theorem scLPick : FnScope ["_law_row", "_law_things"] ["_law_row", "_law_things"] (defScope sLPick) := ⟨rfl, rfl, rfl, by decide +kernel, rfl, by decide +kernel, by decide +kernel⟩
theorem ok_lPick (F : Fun K "_law_pick" "_law_pick" sLPick f fd) (T : Txt mg) (DT : Dn P w K mg base CX0 1 "_law_taken" ["_law_row", "_law_many"] (spLTaken K)) : FnOk P w K mg base CX0 2 f fd ["_law_row", "_law_things"] (spLPick K) := by
  refine F.ok scLPick (fun vs H Q E h => ?_) (fun cdv A outer s H vs Q E hr h => ?_)
  · obtain ⟨_, _, _, _, _, rfl, _⟩ := h
    rfl
  obtain ⟨r, sc, t, ns, xs, rfl, R, S, hne, h1, h2, kQ⟩ := h
  refine ⟨_, pss_one (ps_ret (pe_ix ix_list (pv 1) (pe_d (k := 1) DT hr (pa_cons (pv 0) (pa_cons (pe_callB call_len_seq (by rfl) T.len bt_len (pa_cons (pv 1) pa_nil)) pa_nil))) (fun _ _ => rfl))), ?_⟩
  refine ⟨_, rfl, _, rfl, _, rfl, t, xs, rfl, .inl S, r, sc, ns, xs.length, rfl, R, h1, h2, fun n H' hn d => ?_⟩
  obtain ⟨i, x, z, rfl, hx⟩ := d.ex
  have e : xs[n]? = some xs[n] := List.getElem?_eq_getElem hn
  exact ⟨t, xs, _, _, rfl, rfl, sqL_upd S hne, atI_nat e, kQ n _ _ e d⟩
end
end SK
end

section
namespace SK
open PySem PySem.Spec PyProof.Rows L2 GxR SKG SKR
section
variable {P : Program} {w : World} {K : PySem.W.Frag} {mg : Str → Option Value} {base : Heap} {f : Addr} {fd : FuncData} {PA PM : Addr}

/-! ### _law_alike -/
inductive Flt : V → String → Prop
  | int (i : Int) : Flt (.int i) "int"
  | bl (b : Bool) : Flt (.bl b) "bool"
  | str (x : Str) : Flt (.str x) "str"
theorem Flt.ty {K : PySem.W.Frag} {H : Hp} {v : V} {n : String} (h : Flt v n) : TyX K H v (.type n) := by
  cases h with
  | int i => exact .base (.int i)
  | bl b => exact .base (.bl b)
  | str x => exact .base (.str x)
theorem Flt.scal {v : V} {n : String} (h : Flt v n) : scal v v = true := by cases h <;> rfl
def Alk (K : PySem.W.Frag) (H : Hp) : Nat → V → V → Prop
  | 0, v, u => v = u ∧ ∃ n, Flt v n
  | n + 1, v, u => (v = u ∧ ∃ n, Flt v n) ∨ ∃ (a b : Addr) (xs ys : List V), v = .ref a ∧ u = .ref b ∧ SqT K H a xs ∧ SqT K H b ys ∧ xs.length = ys.length ∧ ys.length ≤ 1000 ∧ ∀ (i : Nat) (x y : V), xs[i]? = some x → ys[i]? = some y → Alk K H n x y
theorem Alk.gw {H H' : Hp} (e : Gw PA PM H H') : ∀ {n : Nat} {v u : V}, Alk K H n v u → Alk K H' n v u
  | 0, _, _, h => by unfold Alk at h ⊢; exact h
  | n + 1, _, _, h => by
    rcases h with h | ⟨a, b, xs, ys, h1, h2, h3, h4, h5, h6, h7⟩
    · exact .inl h
    · exact .inr ⟨a, b, xs, ys, h1, h2, sqT_gw e h3, sqT_gw e h4, h5, h6, fun i x y hx hy => Alk.gw e (h7 i x y hx hy)⟩
theorem Alk.same {H H' : Hp} (e : Same H H') {n : Nat} {v u : V} (h : Alk K H n v u) : Alk K H' n v u := Alk.gw (PA := 0) (PM := 0) (Gw.of e) h
def spAlike (K : PySem.W.Frag) (n : Nat) : Sp := fun vs H Q _ => ∃ (v u : V), vs = [v, u] ∧ Alk K H n v u ∧ ∀ H', Same H H' → Q (.bl true) H'
theorem scLAlike : FnScope ["_law_found", "_law_due", "_law_k"] ["_law_found", "_law_due"] (defScope sLAlike) := ⟨rfl, rfl, rfl, by decide +kernel, rfl, by decide +kernel, by decide +kernel⟩
theorem flt_seq {K : PySem.W.Frag} {v : V} {n : String} (h : Flt v n) : PySem.W.kitAny K (.type n) [.type "tuple", .type "list"] = some false := by
  cases h
  · exact kitAny_cons (b := false) (kit_ty (by decide +kernel)) (fun _ => kitAny_cons (b := false) (kit_ty (by decide +kernel)) (fun _ => kitAny_nil) (fun z => by cases z)) (fun z => by cases z)
  · exact kitAny_cons (b := false) (kit_ty (by decide +kernel)) (fun _ => kitAny_cons (b := false) (kit_ty (by decide +kernel)) (fun _ => kitAny_nil) (fun z => by cases z)) (fun z => by cases z)
  · exact kitAny_cons (b := false) (kit_ty (by decide +kernel)) (fun _ => kitAny_cons (b := false) (kit_ty (by decide +kernel)) (fun _ => kitAny_nil) (fun z => by cases z)) (fun z => by cases z)
theorem tup_seq {K : PySem.W.Frag} : PySem.W.kitAny K (.type "tuple") [.type "tuple", .type "list"] = some true := kitAny_cons (b := true) (kit_ty (by decide +kernel)) (fun z => by cases z) (fun _ => rfl)
theorem ok_lAlike0 (F : Fun K "_law_alike" "_law_alike" sLAlike f fd) (T : Txt mg) : FnOk P w K mg base CX0 1 f fd ["_law_found", "_law_due"] (spAlike K 0) := by
  refine F.ok scLAlike (fun vs H Q E h => ?_) (fun cdv A outer s H vs Q E hr h => ?_)
  · obtain ⟨_, _, rfl, _⟩ := h
    rfl
  obtain ⟨v, u, rfl, ⟨rfl, nm, hf⟩, kQ⟩ := h
  refine ⟨_, pss_cons (ps_if (pt_val (pe_callB call_isiT (by rfl) T.isi bt_isi (pa_cons (pv 1) (pa_cons (pe_tup (pa_cons (pe_bltn (v := .ty "tuple") (by rfl) T.tuple bt_tuple rfl) (pa_cons (pe_bltn (v := .ty "list") (by rfl) T.list bt_list rfl) pa_nil))) pa_nil)))) pss_never pss_nil)
    (pss_cons (ps_if (PW.pt (pw_or (pt_cmpR op_isN (pv 1) pe_non (nomark _)) (pw_or1 (pt_val (pe_callB call_isi (by rfl) T.isi bt_isi (pa_cons (pv 1) (pa_cons (pe_bltn (v := .ty "str") (by rfl) T.str bt_str rfl) pa_nil)))))))
      (pss_one (ps_ret (pe_and (pe_cmpR op_eq (pv 0) (pv 1) (nomark _)) (pe_one (pe_cmpR op_eq (pe_callB call_isi (by rfl) T.isi bt_isi (pa_cons (pv 0) (pa_cons (pe_bltn (v := .ty "str") (by rfl) T.str bt_str rfl) pa_nil))) (pe_callB call_isi (by rfl) T.isi bt_isi (pa_cons (pv 1) (pa_cons (pe_bltn (v := .ty "str") (by rfl) T.str bt_str rfl) pa_nil))) (nomark _)))))) pss_nil)
    (pss_one (ps_ret (pe_and (pe_callB call_isi (by rfl) T.isi bt_isi (pa_cons (pv 0) (pa_cons (pe_bltn (v := .ty "int") (by rfl) T.int bt_int rfl) pa_nil)))
      (pe_and (pe_cmpR op_eq (pe_callB call_isi (by rfl) T.isi bt_isi (pa_cons (pv 0) (pa_cons (pe_bltn (v := .ty "bool") (by rfl) T.bool bt_bool rfl) pa_nil))) (pe_callB call_isi (by rfl) T.isi bt_isi (pa_cons (pv 1) (pa_cons (pe_bltn (v := .ty "bool") (by rfl) T.bool bt_bool rfl) pa_nil))) (nomark _))
        (pe_one (pe_cmpR op_eq (pv 0) (pv 1) (nomark _)))))))), ?_⟩
  have q := kQ _ (Same.refl H)
  refine ⟨_, rfl, (by show 2 ≤ sizeLine; exact line_le (by decide)), fun p hp => ?_⟩
  have q := kQ _ (same_new (o := .tup [.ty "tuple", .ty "list"]) hp)
  refine ⟨v, p, _, _, _, false, rfl, upd_same, .cons (.ty "tuple") (.cons (.ty "list") .nil), hf.ty, flt_seq hf, _, rfl, iteF ?_⟩
  cases hf with
  | int i =>
    refine ⟨_, rfl, rfl, _, rfl, iteF ?_⟩
    refine ⟨_, rfl, _, _, _, _, false, rfl, .ty "str", .base (.int i), kit_ty (by decide +kernel), _, rfl, iteF ?_⟩
    refine ⟨_, rfl, _, _, _, _, true, rfl, .ty "int", .base (.int i), kit_ty (by decide +kernel), _, rfl, iteT ?_⟩
    refine ⟨_, rfl, _, _, _, _, false, rfl, .ty "bool", .base (.int i), kit_ty (by decide +kernel), _, rfl, _, _, _, _, false, rfl, .ty "bool", .base (.int i), kit_ty (by decide +kernel), rfl, _, rfl, iteT ?_⟩
    refine ⟨_, rfl, _, rfl, rfl, ?_⟩
    show Q (.bl (decide (V.int i = V.int i))) _
    rw [decide_eq_true rfl]
    exact q
  | bl b =>
    refine ⟨_, rfl, rfl, _, rfl, iteF ?_⟩
    refine ⟨_, rfl, _, _, _, _, false, rfl, .ty "str", .base (.bl b), kit_ty (by decide +kernel), _, rfl, iteF ?_⟩
    refine ⟨_, rfl, _, _, _, _, true, rfl, .ty "int", .base (.bl b), kit_ty (by decide +kernel), _, rfl, iteT ?_⟩
    refine ⟨_, rfl, _, _, _, _, true, rfl, .ty "bool", .base (.bl b), kit_ty (by decide +kernel), _, rfl, _, _, _, _, true, rfl, .ty "bool", .base (.bl b), kit_ty (by decide +kernel), rfl, _, rfl, iteT ?_⟩
    refine ⟨_, rfl, _, rfl, rfl, ?_⟩
    show Q (.bl (decide (V.bl b = V.bl b))) _
    rw [decide_eq_true rfl]
    exact q
  | str x =>
    refine ⟨_, rfl, rfl, _, rfl, iteF ?_⟩
    refine ⟨_, rfl, _, _, _, _, true, rfl, .ty "str", .base (.str x), kit_ty (by decide +kernel), _, rfl, iteT ?_⟩
    refine ⟨_, rfl, _, rfl, rfl, _, rfl, ?_⟩
    refine ifT (decide_eq_true rfl) ?_
    refine ⟨_, rfl, _, _, _, _, true, rfl, .ty "str", .base (.str x), kit_ty (by decide +kernel), _, rfl, _, _, _, _, true, rfl, .ty "str", .base (.str x), kit_ty (by decide +kernel), rfl, ?_⟩
    exact q
theorem ok_lAlikeS {n : Nat} (F : Fun K "_law_alike" "_law_alike" sLAlike f fd) (T : Txt mg) (D : Dn P w K mg base CX0 (n + 1) "_law_alike" ["_law_found", "_law_due"] (spAlike K n)) : FnOk P w K mg base CX0 (n + 2) f fd ["_law_found", "_law_due"] (spAlike K (n + 1)) := by
  refine F.ok scLAlike (fun vs H Q E h => ?_) (fun cdv A outer s H vs Q E hr h => ?_)
  · obtain ⟨_, _, rfl, _⟩ := h
    rfl
  obtain ⟨v, u, rfl, hA, kQ⟩ := h
  refine ⟨_, pss_cons (ps_if (pt_val (pe_callB call_isiT (by rfl) T.isi bt_isi (pa_cons (pv 1) (pa_cons (pe_tup (pa_cons (pe_bltn (v := .ty "tuple") (by rfl) T.tuple bt_tuple rfl) (pa_cons (pe_bltn (v := .ty "list") (by rfl) T.list bt_list rfl) pa_nil))) pa_nil))))
      (pss_cons (ps_if (PW.pt (pw_or (pt_not (pt_val (pe_callB call_isiT (by rfl) T.isi bt_isi (pa_cons (pv 0) (pa_cons (pe_tup (pa_cons (pe_bltn (v := .ty "tuple") (by rfl) T.tuple bt_tuple rfl) (pa_cons (pe_bltn (v := .ty "list") (by rfl) T.list bt_list rfl) pa_nil))) pa_nil)))))
          (pw_or1 (pt_cmpR op_ne (pe_callB call_isi (by rfl) T.isi bt_isi (pa_cons (pv 0) (pa_cons (pe_bltn (v := .ty "list") (by rfl) T.list bt_list rfl) pa_nil))) (pe_callB call_isi (by rfl) T.isi bt_isi (pa_cons (pv 1) (pa_cons (pe_bltn (v := .ty "list") (by rfl) T.list bt_list rfl) pa_nil))) (nomark _))))) pss_never pss_nil)
      (pss_cons (ps_if (pt_cmpR neK (pe_callB call_len_seq (by rfl) T.len bt_len (pa_cons (pv 0) pa_nil)) (pe_callB call_len_seq (by rfl) T.len bt_len (pa_cons (pv 1) pa_nil)) (nomark _)) pss_never pss_nil)
      (pss_one (ps_ret (pe_cmpR (op_eqD hr.units) (pe_lc (own := [("_law_k", 2)]) (g := gName 2) rfl scLAlike.nd (pi_range1 (by rfl) T.range (pa_cons (pe_callB call_len_seq (by rfl) T.len bt_len (pa_cons (pv 1) pa_nil)) pa_nil))
        (blkOk_by (N := ["_law_found", "_law_due", "_law_k"]) (sc := defScope sLAlike) (by decide +kernel)) (fun _ _ _ _ _ => pg_name (i := 2) scLAlike.nd rfl (Or.inl rfl))
        (fun _ _ _ _ _ => pts_one (pt_not (pt_val (pe_d D hr (pa_cons (pe_ix (r := rIxT K) ix_tup (pv 0) (pv 2) (fun _ _ => rfl)) (pa_cons (pe_ix (r := rIxT K) ix_tup (pv 1) (pv 2) (fun _ _ => rfl)) pa_nil)))))) (fun _ _ _ _ _ => pv 2)) (pe_lst pa_nil) (nomark _)))))) pss_nil)
    (pss_cons (ps_if (PW.pt (pw_or (pt_cmpR op_isN (pv 1) pe_non (nomark _)) (pw_or1 (pt_val (pe_callB call_isi (by rfl) T.isi bt_isi (pa_cons (pv 1) (pa_cons (pe_bltn (v := .ty "str") (by rfl) T.str bt_str rfl) pa_nil)))))))
      (pss_one (ps_ret (pe_and (pe_cmpR op_eq (pv 0) (pv 1) (nomark _)) (pe_one (pe_cmpR op_eq (pe_callB call_isi (by rfl) T.isi bt_isi (pa_cons (pv 0) (pa_cons (pe_bltn (v := .ty "str") (by rfl) T.str bt_str rfl) pa_nil))) (pe_callB call_isi (by rfl) T.isi bt_isi (pa_cons (pv 1) (pa_cons (pe_bltn (v := .ty "str") (by rfl) T.str bt_str rfl) pa_nil))) (nomark _)))))) pss_nil)
    (pss_one (ps_ret (pe_and (pe_callB call_isi (by rfl) T.isi bt_isi (pa_cons (pv 0) (pa_cons (pe_bltn (v := .ty "int") (by rfl) T.int bt_int rfl) pa_nil)))
      (pe_and (pe_cmpR op_eq (pe_callB call_isi (by rfl) T.isi bt_isi (pa_cons (pv 0) (pa_cons (pe_bltn (v := .ty "bool") (by rfl) T.bool bt_bool rfl) pa_nil))) (pe_callB call_isi (by rfl) T.isi bt_isi (pa_cons (pv 1) (pa_cons (pe_bltn (v := .ty "bool") (by rfl) T.bool bt_bool rfl) pa_nil))) (nomark _))
        (pe_one (pe_cmpR op_eq (pv 0) (pv 1) (nomark _)))))))), ?_⟩
  refine ⟨_, rfl, (by show 2 ≤ sizeLine; exact line_le (by decide)), fun p hp => ?_⟩
  have s1 := same_new (o := .tup [.ty "tuple", .ty "list"]) hp
  rcases hA with ⟨rfl, nm, hf⟩ | ⟨a, b, xs, ys, rfl, rfl, hx, hy, hl, hl2, hA⟩
  · have q := kQ _ s1
    refine ⟨v, p, _, _, _, false, rfl, upd_same, .cons (.ty "tuple") (.cons (.ty "list") .nil), hf.ty, flt_seq hf, _, rfl, iteF ?_⟩
    cases hf with
    | int i =>
      refine ⟨_, rfl, rfl, _, rfl, iteF ?_⟩
      refine ⟨_, rfl, _, _, _, _, false, rfl, .ty "str", .base (.int i), kit_ty (by decide +kernel), _, rfl, iteF ?_⟩
      refine ⟨_, rfl, _, _, _, _, true, rfl, .ty "int", .base (.int i), kit_ty (by decide +kernel), _, rfl, iteT ?_⟩
      refine ⟨_, rfl, _, _, _, _, false, rfl, .ty "bool", .base (.int i), kit_ty (by decide +kernel), _, rfl, _, _, _, _, false, rfl, .ty "bool", .base (.int i), kit_ty (by decide +kernel), rfl, _, rfl, iteT ?_⟩
      refine ⟨_, rfl, _, rfl, rfl, ?_⟩
      show Q (.bl (decide (V.int i = V.int i))) _
      rw [decide_eq_true rfl]
      exact q
    | bl b =>
      refine ⟨_, rfl, rfl, _, rfl, iteF ?_⟩
      refine ⟨_, rfl, _, _, _, _, false, rfl, .ty "str", .base (.bl b), kit_ty (by decide +kernel), _, rfl, iteF ?_⟩
      refine ⟨_, rfl, _, _, _, _, true, rfl, .ty "int", .base (.bl b), kit_ty (by decide +kernel), _, rfl, iteT ?_⟩
      refine ⟨_, rfl, _, _, _, _, true, rfl, .ty "bool", .base (.bl b), kit_ty (by decide +kernel), _, rfl, _, _, _, _, true, rfl, .ty "bool", .base (.bl b), kit_ty (by decide +kernel), rfl, _, rfl, iteT ?_⟩
      refine ⟨_, rfl, _, rfl, rfl, ?_⟩
      show Q (.bl (decide (V.bl b = V.bl b))) _
      rw [decide_eq_true rfl]
      exact q
    | str x =>
      refine ⟨_, rfl, rfl, _, rfl, iteF ?_⟩
      refine ⟨_, rfl, _, _, _, _, true, rfl, .ty "str", .base (.str x), kit_ty (by decide +kernel), _, rfl, iteT ?_⟩
      refine ⟨_, rfl, _, rfl, rfl, _, rfl, ?_⟩
      refine ifT (decide_eq_true rfl) ?_
      refine ⟨_, rfl, _, _, _, _, true, rfl, .ty "str", .base (.str x), kit_ty (by decide +kernel), _, rfl, _, _, _, _, true, rfl, .ty "str", .base (.str x), kit_ty (by decide +kernel), rfl, ?_⟩
      exact q
  · have x1 := sqT_same s1 hx
    have y1 := sqT_same s1 hy
    refine ⟨.ref b, p, _, _, _, true, rfl, upd_same, .cons (.ty "tuple") (.cons (.ty "list") .nil), tyx_of y1, tup_seq, _, rfl, iteT ?_⟩
    refine ⟨_, rfl, (by show 2 ≤ sizeLine; exact line_le (by decide)), fun p2 hp2 => ?_⟩
    have s2 := s1.trans (same_new (o := .tup [.ty "tuple", .ty "list"]) hp2)
    have x2 := sqT_same s2 hx
    have y2 := sqT_same s2 hy
    refine ⟨.ref a, p2, _, _, _, true, rfl, upd_same, .cons (.ty "tuple") (.cons (.ty "list") .nil), tyx_of x2, tup_seq, _, rfl, iteF ?_⟩
    refine ⟨_, rfl, _, _, _, _, false, rfl, .ty "list", tyx_of x2, kit_ty (by decide +kernel), _, rfl, _, _, _, _, false, rfl, .ty "list", tyx_of y2, kit_ty (by decide +kernel), rfl, _, rfl, iteF ?_⟩
    refine ⟨_, rfl, _, _, rfl, .inr x2, _, rfl, _, _, rfl, .inr y2, _, _, rfl, rfl, _, rfl, ?_⟩
    refine ifF (by rw [decide_eq_true hl]; rfl) ?_
    refine ⟨_, rfl, _, _, rfl, .inr y2, _, rfl, by omega, by omega, fun L hL => lc_range (lo := 0) (n := (ys.length : Int).toNat) (fun i H' => Same H H' ∧ H' L = some (.lst [])) ⟨same_at (s2.free hL) s2, upd_same⟩ ?_ ?_⟩
    · rintro i H1 hi ⟨s3, e3⟩
      rw [Int.zero_add]
      have hi2 : i < ys.length := by omega
      have ey : ys[i]? = some ys[i] := List.getElem?_eq_getElem hi2
      have ex : xs[i]? = some xs[i] := List.getElem?_eq_getElem (by omega)
      have x3 := sqT_same s3 hx
      have y3 := sqT_same s3 hy
      refine ⟨rfl, _, rfl, _, rfl, _, _, _, _, rfl, rfl, x3, atI_nat (j := i) ex, _, rfl, _, rfl, _, _, _, _, rfl, rfl, y3, atI_nat (j := i) ey, _, _, rfl, Alk.same s3 (hA i _ _ ex ey), fun H2 s4 => ⟨_, rfl, iteF ?_⟩⟩
      exact ⟨s3.trans s4, s4 _ _ e3⟩
    · rintro H1 ⟨s3, e3⟩
      refine ⟨Nat.zero_le _, fun r hr => ?_⟩
      have s4 := s3.trans (same_new (o := .lst []) hr)
      have nLr : L ≠ r := ne_of_none e3 hr
      refine ⟨.list [], .list [], .lst (.inl (.inl (by rw [upd_ne nLr]; exact e3))) .nil, .lst (.inl (.inl upd_same)) .nil, rfl, rfl, ?_⟩
      exact kQ _ s4
end
end SK
end

section
namespace SK
open PySem PySem.Spec PyProof.Rows L2 GxR SKG SKR
/-! ### the law's neighbours -/
theorem vN_snoc (l : List Nat) (n : Nat) : vN l ++ [V.int (n : Int)] = vN (l ++ [n]) := vN_app l [n]
def snear (arms len cell : Nat) : List Nat := (List.range (arms * len + 1)).filter fun d => decide (d ∈ nearN arms len cell)
theorem snear_nd (arms len cell : Nat) : (snear arms len cell).Nodup := List.nodup_range.filter _
theorem mem_snear {arms len cell : Nat} (I : Isl arms len) (hc : cell < arms * len + 1) (d : Nat) : d ∈ snear arms len cell ↔ d ∈ nearN arms len cell := by
  unfold snear
  rw [List.mem_filter, List.mem_range, decide_eq_true_iff]
  exact ⟨fun h => h.2, fun h => ⟨(near_f I hc).lt d h, h⟩⟩
theorem snear_of {arms len cell : Nat} {ns : List Int} (I : Isl arms len) (hc : cell < arms * len + 1) (hp : ns.Perm ((lnear arms len cell).map fun n : Nat => (n : Int))) (hs : ns.Pairwise (· ≤ ·)) : ns.map V.int = vN (snear arms len cell) := by
  have F := near_f I hc
  rw [vN_ints]
  refine congrArg (List.map V.int) ?_
  refine List.Perm.eq_of_pairwise (le := fun a b : Int => a ≤ b) (fun a b _ _ h1 h2 => by omega) hs ?_ ?_
  · rw [List.pairwise_map]
    refine List.Pairwise.filter _ ?_
    refine List.pairwise_lt_range.imp ?_
    intro a b h
    omega
  · refine hp.trans (List.Perm.map _ ?_)
    rw [List.perm_ext_iff_of_nodup F.lnd (snear_nd arms len cell)]
    intro d
    rw [F.mem d, mem_snear I hc d]
def lin (len s here : Nat) : Nat := if s = 0 then 0 else here - 1
def lg (len cell a s : Nat) : List Nat := (if cell = (if s = 0 then 0 else 1 + a * len + s - 1) then [1 + a * len + s] else []) ++ (if cell = 1 + a * len + s then [if s = 0 then 0 else 1 + a * len + s - 1] else [])
theorem lnear_eq (arms len cell : Nat) : lnear arms len cell = (List.range arms).flatMap fun a => (List.range len).flatMap fun s => lg len cell a s := rfl
section
variable {P : Program} {w : World} {K : PySem.W.Frag} {mg : Str → Option Value} {base : Heap} {f : Addr} {fd : FuncData} {PA PM : Addr}
def spLNear : Sp := fun vs H Q _ => ∃ arms len cell : Nat, vs = [.int arms, .int len, .int cell] ∧ Isl arms len ∧ cell < arms * len + 1 ∧ ∀ H' p, Same H H' → H p = none → H' p = some (.lst (vN (snear arms len cell))) → Q (.ref p) H'
abbrev nLNear : List Str := ["_law_arms", "_law_length", "_law_cell", "_law_found", "_law_arm", "_law_step", "_law_here", "_law_inner"]
theorem scLNear : FnScope nLNear ["_law_arms", "_law_length", "_law_cell"] (defScope sLNear) := ⟨rfl, rfl, rfl, by decide +kernel, rfl, by decide +kernel, by decide +kernel⟩
theorem ok_lNear (F : Fun K "_law_near" "_law_near" sLNear f fd) (T : Txt mg) : FnOk P w K mg base CX0 1 f fd ["_law_arms", "_law_length", "_law_cell"] spLNear := by
  refine F.ok scLNear (fun vs H Q E h => ?_) (fun cdv A outer s H vs Q E hr h => ?_)
  · obtain ⟨_, _, _, rfl, _⟩ := h
    rfl
  obtain ⟨arms, len, cell, rfl, I, hc, kQ⟩ := h
  refine ⟨_, pss_cons (ps_set (i := 3) scLNear.nd rfl (Or.inl rfl) (pe_lst pa_nil))
    (pss_cons (ps_for PassesOwn.never rfl (pi_range1 (by rfl) T.range (pa_cons (pv 0) pa_nil)) (pg_name (i := 4) scLNear.nd rfl (Or.inl rfl))
      (pss_one (ps_for PassesOwn.never rfl (pi_range1 (by rfl) T.range (pa_cons (pv 1) pa_nil)) (pg_name (i := 5) scLNear.nd rfl (Or.inl rfl))
        (pss_cons (ps_set (i := 6) scLNear.nd rfl (Or.inl rfl) (pe_op addK (pe_op addK (pn 1) (pe_op mulK (pv 4) (pv 1))) (pv 5)))
        (pss_cons (ps_set (i := 7) scLNear.nd rfl (Or.inl rfl) (pe_ifExp (pt_cmpR eqK (pv 5) (pn 0) (nomark _)) (pn 0) (pe_op subK (pv 6) (pn 1))))
        (pss_cons (ps_if (pt_cmpR eqK (pv 2) (pv 7) (nomark _)) (pss_one (ps_expr (pe_bm PySem.F.plainAttrs_list PySem.F.slot_list_append PySem.F.type_list_append mt_append (pv 3) (pa_cons (pv 6) pa_nil)))) pss_nil)
        (pss_one (ps_if (pt_cmpR eqK (pv 2) (pv 6) (nomark _)) (pss_one (ps_expr (pe_bm PySem.F.plainAttrs_list PySem.F.slot_list_append PySem.F.type_list_append mt_append (pv 3) (pa_cons (pv 7) pa_nil)))) pss_nil))))))))
    (pss_one (ps_ret (pe_callB cr_sorted (by rfl) T.sorted bt_sorted (pa_cons (pv 3) pa_nil))))), ?_⟩
  have ha9 : arms ≤ 4 := by rcases I.a with e | e <;> omega
  have hl9 := I.l4
  refine ⟨Nat.zero_le _, fun pf hpf => ?_⟩
  refine ⟨_, rfl, _, rfl, by omega, by omega, for_range (lo := 0) (n := (arms : Int).toNat) (fun i σ H1 => ∃ (v4 v5 v6 v7 : Option V) (l : List Nat), σ = [some (.int arms), some (.int len), some (.int cell), some (.ref pf), v4, v5, v6, v7] ∧ Same H H1 ∧ H1 pf = some (.lst (vN l)) ∧
    l = ((List.range i).flatMap fun a => (List.range len).flatMap fun s => lg len cell a s) ∧ l.length ≤ 8 * i) ⟨none, none, none, none, [], rfl, same_new hpf, upd_same, rfl, Nat.zero_le _⟩ ?_ ?_⟩
  · rintro i σ H1 hi ⟨v4, v5, v6, v7, l0, rfl, s1, e1, el0, hl0⟩
    rw [Int.zero_add]
    refine ⟨_, rfl, _, rfl, by omega, by omega, for_range (lo := 0) (n := (len : Int).toNat) (fun j σ H1 => ∃ (v5 v6 v7 : Option V) (l : List Nat), σ = [some (.int arms), some (.int len), some (.int cell), some (.ref pf), some (.int (i : Nat)), v5, v6, v7] ∧ Same H H1 ∧ H1 pf = some (.lst (vN l)) ∧
      l = l0 ++ ((List.range j).flatMap fun s => lg len cell i s) ∧ l.length ≤ 8 * i + 2 * j) ⟨v5, v6, v7, l0, rfl, s1, e1, by simp, hl0⟩ ?_ ?_⟩
    · rintro j σ H2 hj ⟨v5, v6, v7, l, rfl, s2, e2, el, hl⟩
      rw [Int.zero_add]
      refine ⟨_, rfl, _, rfl, i, len, rfl, rfl, (by omega : i < 2 ^ 64), 1, _, rfl, rfl, _, rfl, _, j, rfl, rfl, _, rfl, j, 0, rfl, rfl, _, rfl, ?_⟩
      by_cases h0 : j = 0
      · refine ifT (decide_eq_true h0) ?_
        refine ⟨_, rfl, _, rfl, cell, 0, rfl, rfl, _, rfl, ?_⟩
        by_cases h1 : cell = 0
        · refine ifT (decide_eq_true h1) ?_
          refine ⟨_, rfl, .inl ⟨rfl, _, .inl (.inl e2)⟩, _, rfl, _, _, _, rfl, rfl, e2, by rw [vN_len]; exact line_lt (by (try rw [List.length_append, List.length_singleton]); omega), ?_⟩
          have s3 : Same H (upd H2 pf (.lst (vN l ++ [V.int ((1 + i * len + j : Nat) : Int)]))) := same_at hpf s2
          have e3 : upd H2 pf (.lst (vN l ++ [V.int ((1 + i * len + j : Nat) : Int)])) pf = some (.lst (vN (l ++ [1 + i * len + j]))) := by rw [upd_same, ← vN_app]; rfl
          refine ⟨_, rfl, _, rfl, cell, _, rfl, rfl, _, rfl, ?_⟩
          by_cases h2 : cell = 1 + i * len + j
          · refine ifT (decide_eq_true h2) ?_
            refine ⟨_, rfl, .inl ⟨rfl, _, .inl (.inl e3)⟩, _, rfl, _, _, _, rfl, rfl, e3, by rw [vN_len]; exact line_lt (by (try rw [List.length_append, List.length_singleton]); omega), ?_⟩
            refine ⟨_, _, _, l ++ [1 + i * len + j] ++ [0], rfl, same_at hpf s3, by rw [upd_same]; exact congrArg (fun z => some (HO.lst z)) (vN_snoc _ _), ?_, by rw [List.length_append, List.length_append, List.length_singleton, List.length_singleton]; omega⟩
            rw [el, List.range_succ, List.flatMap_append, List.flatMap_singleton]
            unfold lg
            rw [if_pos h2, if_pos h0, if_pos h1]
            simp only [List.append_assoc]
          · refine ifF (decide_eq_false h2) ?_
            refine ⟨_, _, _, l ++ [1 + i * len + j], rfl, s3, e3, ?_, by rw [List.length_append, List.length_singleton]; omega⟩
            rw [el, List.range_succ, List.flatMap_append, List.flatMap_singleton]
            unfold lg
            rw [if_neg h2, if_pos h0, if_pos h1]
            simp only [List.append_assoc, List.append_nil]
        · refine ifF (decide_eq_false h1) ?_
          refine ⟨_, rfl, _, rfl, cell, _, rfl, rfl, _, rfl, ?_⟩
          by_cases h2 : cell = 1 + i * len + j
          · refine ifT (decide_eq_true h2) ?_
            refine ⟨_, rfl, .inl ⟨rfl, _, .inl (.inl e2)⟩, _, rfl, _, _, _, rfl, rfl, e2, by rw [vN_len]; exact line_lt (by (try rw [List.length_append, List.length_singleton]); omega), ?_⟩
            refine ⟨_, _, _, l ++ [0], rfl, same_at hpf s2, by rw [upd_same, ← vN_app]; rfl, ?_, by rw [List.length_append, List.length_singleton]; omega⟩
            rw [el, List.range_succ, List.flatMap_append, List.flatMap_singleton]
            unfold lg
            rw [if_pos h2, if_pos h0, if_neg h1]
            simp only [List.append_assoc, List.nil_append]
          · refine ifF (decide_eq_false h2) ?_
            refine ⟨_, _, _, l, rfl, s2, e2, ?_, by omega⟩
            rw [el, List.range_succ, List.flatMap_append, List.flatMap_singleton]
            unfold lg
            rw [if_neg h2, if_pos h0, if_neg h1]
            simp only [List.append_assoc, List.append_nil]
      · refine ifF (decide_eq_false h0) ?_
        refine ⟨_, rfl, _, 1, rfl, rfl, (by omega : 1 ≤ 1 + i * len + j), ?_⟩
        refine ⟨_, rfl, _, rfl, cell, (1 + i * len + j - 1), rfl, rfl, _, rfl, ?_⟩
        by_cases h1 : cell = (1 + i * len + j - 1)
        · refine ifT (decide_eq_true h1) ?_
          refine ⟨_, rfl, .inl ⟨rfl, _, .inl (.inl e2)⟩, _, rfl, _, _, _, rfl, rfl, e2, by rw [vN_len]; exact line_lt (by (try rw [List.length_append, List.length_singleton]); omega), ?_⟩
          have s3 : Same H (upd H2 pf (.lst (vN l ++ [V.int ((1 + i * len + j : Nat) : Int)]))) := same_at hpf s2
          have e3 : upd H2 pf (.lst (vN l ++ [V.int ((1 + i * len + j : Nat) : Int)])) pf = some (.lst (vN (l ++ [1 + i * len + j]))) := by rw [upd_same, ← vN_app]; rfl
          refine ⟨_, rfl, _, rfl, cell, _, rfl, rfl, _, rfl, ?_⟩
          by_cases h2 : cell = 1 + i * len + j
          · refine ifT (decide_eq_true h2) ?_
            refine ⟨_, rfl, .inl ⟨rfl, _, .inl (.inl e3)⟩, _, rfl, _, _, _, rfl, rfl, e3, by rw [vN_len]; exact line_lt (by (try rw [List.length_append, List.length_singleton]); omega), ?_⟩
            refine ⟨_, _, _, l ++ [1 + i * len + j] ++ [(1 + i * len + j - 1)], rfl, same_at hpf s3, by rw [upd_same]; exact congrArg (fun z => some (HO.lst z)) (vN_snoc _ _), ?_, by rw [List.length_append, List.length_append, List.length_singleton, List.length_singleton]; omega⟩
            rw [el, List.range_succ, List.flatMap_append, List.flatMap_singleton]
            unfold lg
            rw [if_pos h2, if_neg h0, if_pos h1]
            simp only [List.append_assoc]
          · refine ifF (decide_eq_false h2) ?_
            refine ⟨_, _, _, l ++ [1 + i * len + j], rfl, s3, e3, ?_, by rw [List.length_append, List.length_singleton]; omega⟩
            rw [el, List.range_succ, List.flatMap_append, List.flatMap_singleton]
            unfold lg
            rw [if_neg h2, if_neg h0, if_pos h1]
            simp only [List.append_assoc, List.append_nil]
        · refine ifF (decide_eq_false h1) ?_
          refine ⟨_, rfl, _, rfl, cell, _, rfl, rfl, _, rfl, ?_⟩
          by_cases h2 : cell = 1 + i * len + j
          · refine ifT (decide_eq_true h2) ?_
            refine ⟨_, rfl, .inl ⟨rfl, _, .inl (.inl e2)⟩, _, rfl, _, _, _, rfl, rfl, e2, by rw [vN_len]; exact line_lt (by (try rw [List.length_append, List.length_singleton]); omega), ?_⟩
            refine ⟨_, _, _, l ++ [(1 + i * len + j - 1)], rfl, same_at hpf s2, by rw [upd_same, ← vN_app]; rfl, ?_, by rw [List.length_append, List.length_singleton]; omega⟩
            rw [el, List.range_succ, List.flatMap_append, List.flatMap_singleton]
            unfold lg
            rw [if_pos h2, if_neg h0, if_neg h1]
            simp only [List.append_assoc, List.nil_append]
          · refine ifF (decide_eq_false h2) ?_
            refine ⟨_, _, _, l, rfl, s2, e2, ?_, by omega⟩
            rw [el, List.range_succ, List.flatMap_append, List.flatMap_singleton]
            unfold lg
            rw [if_neg h2, if_neg h0, if_neg h1]
            simp only [List.append_assoc, List.append_nil]
    · rintro σ H2 ⟨v5, v6, v7, l, rfl, s2, e2, el, hl⟩
      refine ⟨_, _, _, _, l, rfl, s2, e2, ?_, by omega⟩
      rw [el, el0, List.range_succ, List.flatMap_append, List.flatMap_singleton]
      have e : (len : Int).toNat = len := by omega
      rw [e]
  · rintro σ H2 ⟨v4, v5, v6, v7, l, rfl, s2, e2, el, hl⟩
    have e : (arms : Int).toNat = arms := by omega
    rw [e, ← lnear_eq] at el
    refine ⟨_, rfl, pf, l.map fun n : Nat => (n : Int), rfl, by rw [← vN_ints]; exact .inl (.inl e2), by rw [List.length_map]; omega, fun ns' p hp hs hpn => ?_⟩
    rw [el] at hp
    refine kQ _ p (same_at (s2.free hpn) s2) (s2.free hpn) ?_
    rw [upd_same, snear_of I hc hp hs]
end
end SK
end

section
/-! Lists and pairs as data. -/
namespace SK
open PySem PySem.Spec PyProof.Rows L2 GxR SKG SKR
def dN (l : List Nat) : List PyData := l.map fun n : Nat => PyData.int (n : Int)
def dP (t : Nat × Nat) : PyData := PyData.tuple [.int (t.1 : Int), .int (t.2 : Int)]
theorem lay_dN : ∀ l : List Nat, PyData.canLayAll0 (dN l) = true
  | [] => by simp [dN, PyData.canLayAll0]
  | n :: l => by
    have ih := lay_dN l
    unfold dN at ih ⊢
    rw [List.map_cons]
    simp only [PyData.canLayAll0, PyData.canLay0, Bool.true_and]
    exact ih
theorem dep_dN : ∀ l : List Nat, PyData.depthAll (dN l) ≤ 1
  | [] => by simp [dN, PyData.depthAll]
  | n :: l => by
    have ih := dep_dN l
    unfold dN at ih ⊢
    rw [List.map_cons]
    simp only [PyData.depthAll, PyData.depth]
    omega
theorem sh_dN (l : List Nat) : SeqAt.shaped (.list (dN l)) = true := by
  unfold SeqAt.shaped
  rw [Bool.and_eq_true, decide_eq_true_iff]
  have h1 := lay_dN l
  have h2 := dep_dN l
  simp only [PyData.canLay0, PyData.depth]
  exact ⟨h1, by omega⟩
theorem lay_dP (t : Nat × Nat) : PyData.canLay0 (dP t) = true := by
  unfold dP
  simp [PyData.canLay0, PyData.canLayAll0]
theorem dep_dP (t : Nat × Nat) : PyData.depth (dP t) ≤ 3 := by
  unfold dP
  simp [PyData.depth, PyData.depthAll]
theorem sh_dP (t : Nat × Nat) : SeqAt.shaped (dP t) = true := by
  unfold SeqAt.shaped
  rw [Bool.and_eq_true, decide_eq_true_iff]
  have := dep_dP t
  exact ⟨lay_dP t, by omega⟩
theorem lay_dPs : ∀ l : List (Nat × Nat), PyData.canLayAll0 (l.map dP) = true
  | [] => by simp [PyData.canLayAll0]
  | n :: l => by
    rw [List.map_cons]
    simp only [PyData.canLayAll0, lay_dP n, Bool.true_and]
    exact lay_dPs l
theorem dep_dPs : ∀ l : List (Nat × Nat), PyData.depthAll (l.map dP) ≤ 4
  | [] => by simp [PyData.depthAll]
  | n :: l => by
    have ih := dep_dPs l
    have h := dep_dP n
    rw [List.map_cons]
    simp only [PyData.depthAll]
    omega
theorem sh_dPs (l : List (Nat × Nat)) : SeqAt.shaped (.list (l.map dP)) = true := by
  unfold SeqAt.shaped
  rw [Bool.and_eq_true, decide_eq_true_iff]
  have h1 := lay_dPs l
  have h2 := dep_dPs l
  simp only [PyData.canLay0, PyData.depth]
  exact ⟨h1, by omega⟩
theorem sh_nil : SeqAt.shaped (.list []) = true := rfl
theorem eqv_nil (l : List PyData) : PyData.eqv (.list l) (.list []) = decide (l = []) := by
  cases l <;> simp [PyData.eqv, PyData.eqvAll]
theorem eqv_dP (t u : Nat × Nat) : PyData.eqv (dP t) (dP u) = decide (t = u) := by
  obtain ⟨a, b⟩ := t
  obtain ⟨c, d⟩ := u
  unfold dP
  rw [Bool.eq_iff_iff, decide_eq_true_iff]
  simp only [PyData.eqv, PyData.eqvAll, Bool.and_true, Bool.and_eq_true, beq_iff_eq, Prod.mk.injEq]
  constructor
  · rintro ⟨h1, h2⟩
    exact ⟨by omega, by omega⟩
  · rintro ⟨h1, h2⟩
    exact ⟨by omega, by omega⟩
theorem any_dP (l : List (Nat × Nat)) (t : Nat × Nat) : ((l.map dP).any fun z => PyData.eqv z (dP t)) = decide (t ∈ l) := by
  rw [Bool.eq_iff_iff, decide_eq_true_iff, List.any_eq_true]
  constructor
  · rintro ⟨z, hz, e⟩
    obtain ⟨u, hu, rfl⟩ := List.mem_map.mp hz
    rw [eqv_dP, decide_eq_true_iff] at e
    rw [← e]; exact hu
  · intro h
    exact ⟨dP t, List.mem_map.mpr ⟨t, h, rfl⟩, by rw [eqv_dP]; exact decide_eq_true rfl⟩
section
variable {K : PySem.W.Frag} {H : Hp}
theorem dpa_N : ∀ l : List Nat, DpAll K H (vN l) (dN l)
  | [] => .nil
  | n :: l => .cons (.int n) (dpa_N l)
theorem dp_P {r : Addr} {t : Nat × Nat} (h : SqT K H r [.int (t.1 : Nat), .int (t.2 : Nat)]) : Dp K H (.ref r) (dP t) := .tup h (.cons (.int _) (.cons (.int _) .nil))
theorem IsTk.dp {x : V} {t : Nat × Nat} (h : IsTk K H x t) : Dp K H x (dP t) := by
  obtain ⟨r, rfl, h⟩ := h
  exact dp_P h
theorem Prs.dp : ∀ {xs : List V} {l : List (Nat × Nat)}, Prs K H xs l → DpAll K H xs (l.map dP)
  | _, _, .nil => .nil
  | _, _, .cons h t => .cons h.dp (Prs.dp t)
theorem dN_nil {l : List Nat} : dN l = [] ↔ l = [] := by unfold dN; exact List.map_eq_nil_iff
theorem dPs_nil {l : List (Nat × Nat)} : l.map dP = [] ↔ l = [] := List.map_eq_nil_iff
end
end SK
end

section
namespace SK
open PySem PySem.Spec PyProof.Rows L2 GxR SKG SKR
/-! ### the law's search -/
theorem conn_congr {nb nb' : Nat → List Nat} {l : List Nat} (h : ∀ x ∈ l, ∀ d, d ∈ nb x ↔ d ∈ nb' x) (c : Conn nb l) : Conn nb' l := by
  obtain ⟨ne, c⟩ := c
  refine ⟨ne, fun S hS hC x hx => c S hS (fun u hu hul v hv hvl => hC u hu hul v ((h u hul v).mp hv) hvl) x hx⟩
theorem conn_snear {arms len : Nat} {l : List Nat} (I : Isl arms len) (hl : ∀ x ∈ l, x < arms * len + 1) : Conn (snear arms len) l ↔ Conn (nearN arms len) l :=
  ⟨conn_congr fun x hx d => mem_snear I (hl x hx) d, conn_congr fun x hx d => (mem_snear I (hl x hx) d).symm⟩
theorem bstart2 {nb : Nat → List Nat} (l : List Nat) : BInv nb l (l.take 1) (l.take 1) := by
  cases l with
  | nil => exact ⟨by simp, fun x hx => by simp at hx, fun h e => (by simp at e), fun x hx => by simp at hx, fun S _ _ x hx => (by simp at hx), fun x hx => (by simp at hx)⟩
  | cons a l => exact BInv.start (nb := nb) (l := a :: l) (h := a) rfl
theorem more_len {nb : Nat → List Nat} {l found rows : List Nat} (hnd : ∀ c ∈ l, (nb c).Nodup) (B : BInv nb l found rows) (i : Nat) : ((rows.take i).foldl (turn2 nb l found) []).length ≤ l.length := by
  obtain ⟨a, _, _⟩ := RInv.turns2 (nb := nb) hnd B.sub (rows.take i) [] ⟨rfl, by simpa using B.nd, fun x hx => B.sub x (by simpa using hx), fun S _ h x hx => h x (by simpa using hx)⟩ (fun c hc => B.row c (List.mem_of_mem_take hc))
  have h : (found ++ (rows.take i).foldl (turn2 nb l found) []).length ≤ l.length := nodup_len _ l a.nd a.sub
  have e : (found ++ (rows.take i).foldl (turn2 nb l found) []).length = found.length + ((rows.take i).foldl (turn2 nb l found) []).length := List.length_append
  omega
theorem filter_one {α : Type} {p : α → Bool} {a : α} : [a].filter p = if p a = true then [a] else [] := by cases h : p a <;> simp [h]
theorem cut1 (xs : List V) : cutV xs none (some ((1 : Nat) : Int)) = xs.take 1 := by
  unfold cutV
  rw [HT.sIx_none, HT.sIx_nat, List.drop_zero, Nat.sub_zero]
  by_cases h : 1 ≤ xs.length
  · rw [Nat.min_eq_left h]
  · have e : xs = [] := List.length_eq_zero_iff.mp (by omega)
    subst e
    rfl
theorem vN_take (l : List Nat) (i : Nat) : (vN l).take i = vN (l.take i) := by
  unfold vN
  rw [List.map_take]
section
variable {P : Program} {w : World} {K : PySem.W.Frag} {mg : Str → Option Value} {base : Heap} {f : Addr} {fd : FuncData} {PA PM : Addr}
def spLHangs (K : PySem.W.Frag) : Sp := fun vs H Q _ => ∃ (s : Addr) (arms len : Nat) (l : List Nat), vs = [.int arms, .int len, .ref s] ∧ Isl arms len ∧ SqL K H s (vN l) ∧ l.Nodup ∧ (∀ x ∈ l, x < arms * len + 1) ∧
  ∀ H', Same H H' → Q (.bl (dec (Conn (nearN arms len) l))) H'
abbrev nLHangs : List Str := ["_law_arms", "_law_length", "_law_some", "_law_seen", "_law_walk_here", "_law_more", "_law_cell", "_law_one"]
theorem scLHangs : FnScope nLHangs ["_law_arms", "_law_length", "_law_some"] (defScope sLHangs) := ⟨rfl, rfl, rfl, by decide +kernel, rfl, by decide +kernel, by decide +kernel⟩
def LhW (K : PySem.W.Frag) (H : Hp) (sm : Addr) (arms len : Nat) (l : List Nat) (m : Nat) (σ : L2.St) (H' : Hp) : Prop :=
  ∃ (pf pr : Addr) (found rows : List Nat) (v5 v6 : Option V), σ = [some (.int arms), some (.int len), some (.ref sm), some (.ref pf), some (.ref pr), v5, v6, none] ∧ Same H H' ∧
    H' pf = some (.lst (vN found)) ∧ H' pr = some (.lst (vN rows)) ∧ BInv (snear arms len) l found rows ∧ m = bms l found rows
theorem ok_lHangs (F : Fun K "_law_hangs" "_law_hangs" sLHangs f fd) (T : Txt mg) (N : Dn P w K mg base CX0 1 "_law_near" ["_law_arms", "_law_length", "_law_cell"] spLNear) : FnOk P w K mg base CX0 2 f fd ["_law_arms", "_law_length", "_law_some"] (spLHangs K) := by
  refine F.ok scLHangs (fun vs H Q E h => ?_) (fun cdv A outer s H vs Q E hr h => ?_)
  · obtain ⟨_, _, _, _, rfl, _⟩ := h
    rfl
  obtain ⟨sm, arms, len, l, rfl, I, S, lnd, llt, kQ⟩ := h
  refine ⟨_, pss_cons (ps_asg (pe_tup (pa_cons (pe_slice sl_list (pv 2) po_none (po_some (pn 1))) (pa_cons (pe_slice sl_list (pv 2) po_none (po_some (pn 1))) pa_nil))) (pg_tup (n := 2) rfl (pgs_cons (pg_name (i := 3) scLHangs.nd rfl (Or.inr rfl)) (pgs_cons (pg_name (i := 4) scLHangs.nd rfl (Or.inl rfl)) pgs_nil))))
    (pss_cons (ps_while PassesOwn.never (pt_cmpR (op_neD hr.units) (pv 4) (pe_lst pa_nil) (nomark _))
      (pss_cons (ps_set (i := 5) scLHangs.nd rfl (Or.inr rfl) (pe_lst pa_nil))
      (pss_cons (ps_for PassesOwn.never rfl (pi_list (pv 4)) (pg_name (i := 6) scLHangs.nd rfl (Or.inl rfl))
        (pss_one (ps_set (i := 5) scLHangs.nd rfl (Or.inr rfl) (pe_op op_cat (pv 5) (pe_lc (own := [("_law_one", 7)]) (g := gName 7) rfl scLHangs.nd
          (pi_list (pe_d N hr (pa_cons (pv 0) (pa_cons (pv 1) (pa_cons (pv 6) pa_nil))))) (blkOk_by (N := nLHangs) (sc := defScope sLHangs) (by decide +kernel)) (fun _ _ _ _ _ => pg_name (i := 7) scLHangs.nd rfl (Or.inl rfl))
          (fun _ _ _ _ _ => pts_one (PW.pt (pw_and (pt_cmpR (r := rIn K false) op_in_seq (pv 7) (pv 2) (by rfl)) (pw_and (pt_cmpR (r := rIn K true) op_notIn_seq (pv 7) (pv 3) (by rfl)) (pw_and1 (pt_cmpR (r := rIn K true) op_notIn_seq (pv 7) (pv 5) (by rfl)))))))
          (fun _ _ _ _ _ => pv 7))))))
      (pss_one (ps_asg (pe_tup (pa_cons (pe_op op_cat (pv 3) (pv 5)) (pa_cons (pv 5) pa_nil))) (pg_tup (n := 2) rfl (pgs_cons (pg_name (i := 3) scLHangs.nd rfl (Or.inr rfl)) (pgs_cons (pg_name (i := 4) scLHangs.nd rfl (Or.inl rfl)) pgs_nil))))))))
    (pss_one (ps_ret (pe_and (pe_cmpR (op_neD hr.units) (pv 2) (pe_lst pa_nil) (nomark _)) (pe_one (pe_cmpR eqK (pe_callB call_len_seq (by rfl) T.len bt_len (pa_cons (pv 3) pa_nil)) (pe_callB call_len_seq (by rfl) T.len bt_len (pa_cons (pv 2) pa_nil)) (nomark _))))))), ?_⟩
  have hll : l.length ≤ 17 := Nat.le_trans (lt_len lnd llt) (isl_small I)
  have h17 := isl_small I
  have hnd : ∀ c ∈ l, (snear arms len c).Nodup := fun c _ => snear_nd arms len c
  refine ⟨_, rfl, _, rfl, sm, vN l, rfl, S, fun pf hpf => ?_⟩
  have s1 := same_new (o := .lst (cutV (vN l) none (some ((1 : Nat) : Int)))) hpf
  refine ⟨_, rfl, _, rfl, sm, vN l, rfl, s1.seq S, fun pr hpr => ?_⟩
  have s2 := s1.trans (same_new (o := .lst (cutV (vN l) none (some ((1 : Nat) : Int)))) hpr)
  have npr : pf ≠ pr := ne_of_none (o := .lst (cutV (vN l) none (some ((1 : Nat) : Int)))) upd_same hpr
  refine ⟨(by show 2 ≤ sizeLine; exact line_le (by decide)), fun pt hpt => ?_⟩
  have s3 := s2.trans (same_new (o := .tup [.ref pf, .ref pr]) hpt)
  have s23 := same_new (o := .tup [.ref pf, .ref pr]) hpt
  refine ⟨pt, _, rfl, .inl (.inl upd_same), rfl, _, _, rfl, _, _, rfl, rfl, ?_⟩
  refine ⟨LhW K H sm arms len l, ⟨_, pf, pr, l.take 1, l.take 1, none, none, rfl, s3, s23 _ _ (by rw [upd_ne npr, upd_same, cut1, vN_take]), s23 _ _ (by rw [upd_same, cut1, vN_take]), bstart2 l, rfl⟩, ?_⟩
  rintro m σ H1 ⟨pf, pr, found, rows, v5, v6, rfl, s1, hf, hrw, B, rfl⟩
  refine ⟨_, rfl, Nat.zero_le _, fun pe hpe => ?_⟩
  have t1 := same_new (o := .lst []) hpe
  have s2 := s1.trans t1
  have hf1 := t1 _ _ hf
  have hr1 := t1 _ _ hrw
  refine ⟨.list (dN rows), .list [], .lst (.inl (.inl hr1)) (dpa_N rows), .lst (.inl (.inl upd_same)) .nil, sh_dN rows, sh_nil, _, rfl, ?_⟩
  rw [eqv_nil]
  have hfl := B.len_le
  by_cases hrows : rows = []
  · subst hrows
    refine ifF (by rw [decide_eq_true (by rfl)]; rfl) ?_
    refine ⟨_, rfl, Nat.zero_le _, fun pe2 hpe2 => ?_⟩
    have t2 := same_new (o := .lst []) hpe2
    have s3 := s2.trans t2
    have S3 := s3.seq S
    have q := kQ _ s3
    refine ⟨.list (dN l), .list [], .lst S3 (dpa_N l), .lst (.inl (.inl upd_same)) .nil, sh_dN l, sh_nil, _, rfl, ?_⟩
    rw [eqv_nil]
    by_cases hl0 : l = []
    · refine ifF (by rw [decide_eq_true (dN_nil.mpr hl0)]; rfl) ?_
      rw [dec_false (fun h => h.1 hl0)] at q
      exact q
    · refine ifT (by rw [decide_eq_false (fun z => hl0 (dN_nil.mp z))]; rfl) ?_
      refine ⟨_, rfl, _, _, rfl, .inl (.inl (.inl (t2 _ _ hf1))), _, rfl, _, _, rfl, .inl S3, _, _, rfl, rfl, ?_⟩
      show Q (.bl (decide ((vN found).length = (vN l).length))) _
      rw [vN_len, vN_len]
      have e : decide (found.length = l.length) = dec (Conn (nearN arms len) l) := by
        refine dec_eq (decide_eq_true_iff.trans ?_)
        rw [← conn_snear I llt]
        exact (B.end_iff hl0 lnd).symm
      rw [e]
      exact q
  refine ifT (by rw [decide_eq_false (fun z => hrows (dN_nil.mp z))]; rfl) ?_
  refine ⟨fun σ' H' => ∃ m', m' < bms l found rows ∧ LhW K H sm arms len l m' σ' H', fun σ' H' h => h, ?_⟩
  refine ⟨Nat.zero_le _, fun pm hpm => ?_⟩
  have t2 := same_new (o := .lst []) hpm
  refine ⟨_, rfl, pr, rfl, ⟨_, .inl (.inl (t2 _ _ hr1))⟩, for_list (xs := vN rows) (fun i σ H2 => ∃ (pm : Addr) (v6 : Option V) (more : List Nat), more = (rows.take i).foldl (turn2 (snear arms len) l found) [] ∧
      σ = [some (.int arms), some (.int len), some (.ref sm), some (.ref pf), some (.ref pr), some (.ref pm), v6, none] ∧ Same H H2 ∧ H2 pf = some (.lst (vN found)) ∧ H2 pr = some (.lst (vN rows)) ∧ H2 pm = some (.lst (vN more)))
    ⟨pm, v6, [], rfl, rfl, s2.trans t2, t2 _ _ hf1, t2 _ _ hr1, upd_same⟩ (fun i σ H2 _ h => ?_) ?_ ?_⟩
  · obtain ⟨_, _, _, _, _, _, _, h, _⟩ := h
    exact .inl (.inl h)
  · rintro i x σ H2 hx ⟨pm, v6, more, emo, rfl, s2, hf2, hr2, hm2⟩
    obtain ⟨cc, hcc, rfl⟩ := vN_of hx
    have hcl : cc ∈ l := B.sub cc (B.row cc (List.mem_of_getElem? hcc))
    have hml : more.length ≤ 17 := by rw [emo]; exact Nat.le_trans (more_len hnd B i) hll
    refine ⟨_, rfl, _, rfl, _, rfl, _, rfl, arms, len, cc, rfl, I, llt cc hcl, fun H3 pq s3 hpq e3 => ?_⟩
    refine ⟨pq, rfl, ⟨_, .inl (.inl e3)⟩, fun D hD => lc_list (K := K) (a := pq) (xs := vN (snear arms len cc)) (fun j H4 => Same H3 H4 ∧ H4 D = some (.lst (vN (((snear arms len cc).take j).filter fun o => decide (o ∈ l) && (decide (o ∉ found) && decide (o ∉ more)))))) ⟨same_new hD, upd_same⟩ (fun j H4 _ h => .inl (.inl (h.1 _ _ e3))) ?_ ?_⟩
    · rintro j y H4 hy ⟨s4, e4⟩
      obtain ⟨o, ho, rfl⟩ := vN_of hy
      have s34 := s3.trans s4
      have S4 := (s2.trans s34).seq S
      have hf4 := s34 _ _ hf2
      have hm4 := s34 _ _ hm2
      have er : ((snear arms len cc).take (j + 1)).filter (fun o => decide (o ∈ l) && (decide (o ∉ found) && decide (o ∉ more))) = ((snear arms len cc).take j).filter (fun o => decide (o ∈ l) && (decide (o ∉ found) && decide (o ∉ more))) ++ (if (decide (o ∈ l) && (decide (o ∉ found) && decide (o ∉ more))) = true then [o] else []) := by
        rw [take_succ ho, List.filter_append, filter_one]
      rw [er]
      refine ⟨rfl, _, rfl, _, rfl, sm, vN l, rfl, .inl S4, rfl, vN_flat l, _, rfl, ?_⟩
      by_cases h1 : o ∈ l
      · refine ifT (c := inV (.int o) (vN l)) (by rw [vN_in, decide_eq_true h1]) ?_
        refine ⟨_, rfl, _, rfl, pf, vN found, rfl, .inl (.inl (.inl hf4)), rfl, vN_flat found, _, rfl, ?_⟩
        by_cases h2 : o ∈ found
        · refine ifF (c := !inV (.int o) (vN found)) (by rw [vN_in, decide_eq_true h2]; rfl) ?_
          refine iteF ⟨s4, ?_⟩
          rw [if_neg (by simp [h2]), List.append_nil]
          exact e4
        · refine ifT (c := !inV (.int o) (vN found)) (by rw [vN_in, decide_eq_false h2]; rfl) ?_
          refine ⟨_, rfl, _, rfl, pm, vN more, rfl, .inl (.inl (.inl hm4)), rfl, vN_flat more, _, rfl, ?_⟩
          by_cases h3 : o ∈ more
          · refine ifF (c := !inV (.int o) (vN more)) (by rw [vN_in, decide_eq_true h3]; rfl) ?_
            refine ⟨s4, ?_⟩
            rw [if_neg (by simp [h3]), List.append_nil]
            exact e4
          · refine ifT (c := !inV (.int o) (vN more)) (by rw [vN_in, decide_eq_false h3]; rfl) ?_
            refine ⟨_, rfl, _, e4, ?_, same_at hD s4, ?_⟩
            · rw [vN_len]
              refine line_lt (Nat.le_trans (List.length_filter_le _ _) ?_)
              have h5 := (snear_nd arms len cc)
              have h6 : (snear arms len cc).length ≤ 17 := by
                unfold snear
                refine Nat.le_trans (List.length_filter_le _ _) ?_
                rw [List.length_range]
                exact h17
              have h7 : ((snear arms len cc).take j).length ≤ (snear arms len cc).length := by rw [List.length_take]; exact Nat.min_le_right _ _
              omega
            · rw [upd_same, if_pos (by simp [h1, h2, h3]), ← vN_app]
              rfl
      · refine ifF (c := inV (.int o) (vN l)) (by rw [vN_in, decide_eq_false h1]) ?_
        refine iteF ⟨s4, ?_⟩
        rw [if_neg (by simp [h1]), List.append_nil]
        exact e4
    · rintro H4 ⟨s4, e4⟩
      rw [vN_len, List.take_length] at e4
      have s34 := s3.trans s4
      refine ⟨pm, D, _, _, rfl, rfl, s34 _ _ hm2, e4, ?_, fun p hp => ?_⟩
      · rw [vN_len, vN_len]
        refine line_le ?_
        have h6 : ((snear arms len cc).filter fun o => decide (o ∈ l) && (decide (o ∉ found) && decide (o ∉ more))).length ≤ 17 := by
          refine Nat.le_trans (List.length_filter_le _ _) ?_
          unfold snear
          refine Nat.le_trans (List.length_filter_le _ _) ?_
          rw [List.length_range]
          exact h17
        omega
      · have t5 := same_new (o := .lst (vN more ++ vN ((snear arms len cc).filter fun o => decide (o ∈ l) && (decide (o ∉ found) && decide (o ∉ more))))) hp
        refine ⟨p, _, more ++ (snear arms len cc).filter (fun o => decide (o ∈ l) && (decide (o ∉ found) && decide (o ∉ more))), ?_, rfl, (s2.trans s34).trans t5, t5 _ _ (s34 _ _ hf2), t5 _ _ (s34 _ _ hr2), ?_⟩
        · rw [take_succ hcc, List.foldl_append, ← emo]
          rfl
        · rw [upd_same, vN_app]
  · rintro σ H2 ⟨pm, v6, more, emo, rfl, s2, hf2, hr2, hm2⟩
    rw [vN_len, List.take_length] at emo
    have emr : more = round2 (snear arms len) l found rows := emo
    have B2 := B.round2 hnd
    rw [← emr] at B2
    have hml : more.length ≤ 17 := by
      have h := more_len hnd B rows.length
      rw [List.take_length, ← emo] at h
      omega
    refine ⟨_, rfl, _, rfl, pf, pm, _, _, rfl, rfl, hf2, hm2, line_le (by rw [vN_len, vN_len]; omega), fun p hp => ?_⟩
    have t3 := same_new (o := .lst (vN found ++ vN more)) hp
    refine ⟨_, rfl, (by show 2 ≤ sizeLine; exact line_le (by decide)), fun pt hpt => ?_⟩
    have t4 := same_new (o := .tup [.ref p, .ref pm]) hpt
    refine ⟨pt, _, rfl, .inl (.inl upd_same), rfl, _, _, rfl, _, _, rfl, rfl, ?_⟩
    refine ⟨_, ?_, p, pm, found ++ more, more, _, _, rfl, (s2.trans t3).trans t4, ?_, t4 _ _ (t3 _ _ hm2), B2, rfl⟩
    · exact bms_lt hrows B2.len_le
    · exact t4 _ _ (by rw [upd_same, vN_app])
end
end SK
end

section
namespace SK
open PySem PySem.Spec PyProof.Rows L2 GxR SKG SKR
theorem rest_filter {cells : List Nat} {land cell : Nat} : ((List.range cells.length).filter fun x => decide (at0 cells x = land) && !decide (x = cell)) = restN cells land cell := by
  unfold restN heldN
  rw [List.filter_filter]
  refine List.filter_congr fun x _ => ?_
  by_cases h : x = cell <;> simp [h]
theorem filter_step {n : Nat} {p : Nat → Bool} : (List.range (n + 1)).filter p = (List.range n).filter p ++ (if p n = true then [n] else []) := by
  rw [List.range_succ, List.filter_append, filter_one]
section
variable {P : Program} {w : World} {K : PySem.W.Frag} {mg : Str → Option Value} {base : Heap} {f : Addr} {fd : FuncData} {PA PM : Addr}
def spLTakings (K : PySem.W.Frag) : Sp := fun vs H Q _ => ∃ (a c : Addr) (arms len lands : Nat) (cells : List Nat), vs = [.ref a] ∧ ChAt K H a c arms cells ∧ Good arms len lands cells ∧
  ∀ H' p xs, Same H H' → H p = none → H' p = some (.lst xs) → Prs K H' xs (tks arms len lands cells) → Q (.ref p) H'
abbrev nLTakings : List Str := ["_law_chart", "_law_arms", "_law_cells", "_law_length", "_law_found", "_law_land", "_law_cell", "_law_other", "_law_rest", "_law_one"]
theorem scLTakings : FnScope nLTakings ["_law_chart"] (defScope sLTakings) := ⟨rfl, rfl, rfl, by decide +kernel, rfl, by decide +kernel, by decide +kernel⟩
theorem ok_lTakings (F : Fun K "_law_takings" "_law_takings" sLTakings f fd) (T : Txt mg) (N : Dn P w K mg base CX0 1 "_law_near" ["_law_arms", "_law_length", "_law_cell"] spLNear) (G : Dn P w K mg base CX0 2 "_law_hangs" ["_law_arms", "_law_length", "_law_some"] (spLHangs K)) :
    FnOk P w K mg base CX0 3 f fd ["_law_chart"] (spLTakings K) := by
  refine F.ok scLTakings (fun vs H Q E h => ?_) (fun cdv A outer s H vs Q E hr h => ?_)
  · obtain ⟨_, _, _, _, _, _, rfl, _⟩ := h
    rfl
  obtain ⟨a, c, arms, len, lands, cells, rfl, C, Gd, kQ⟩ := h
  refine ⟨_, pss_cons (ps_asg (pv 0) (pg_tup (n := 2) rfl (pgs_cons (pg_name (i := 1) scLTakings.nd rfl (Or.inl rfl)) (pgs_cons (pg_name (i := 2) scLTakings.nd rfl (Or.inr rfl)) pgs_nil))))
    (pss_cons (ps_par (i := 3) (j := 4) rfl scLTakings.nd rfl rfl (by decide) rfl rfl (pa_cons (pe_op divK (pe_op subK (pe_callB call_len_seq (by rfl) T.len bt_len (pa_cons (pv 2) pa_nil)) (pn 1)) (pv 1)) (pa_cons (pe_lst pa_nil) pa_nil)) (by rfl))
    (pss_cons (ps_for PassesOwn.never rfl (pi_range1 (by rfl) T.range (pa_cons (pe_op addK (pe_callB (cr_maxT rfl) (by rfl) T.max bt_max (pa_cons (pv 2) pa_nil)) (pn 1)) pa_nil)) (pg_name (i := 5) scLTakings.nd rfl (Or.inr rfl))
      (pss_one (ps_for PassesOwn.never rfl (pi_range1 (by rfl) T.range (pa_cons (pe_callB call_len_seq (by rfl) T.len bt_len (pa_cons (pv 2) pa_nil)) pa_nil)) (pg_name (i := 6) scLTakings.nd rfl (Or.inr rfl))
        (pss_cons (ps_set (i := 7) scLTakings.nd rfl (Or.inr rfl) (pe_ix ix_tup (pv 2) (pv 6) (fun _ _ => rfl)))
        (pss_one (ps_if (PW.pt (pw_and (pt_cmpR neK (pv 7) (pv 5) (nomark _)) (pw_and1 (pt_cmpR (op_neD hr.units) (pe_lc (own := [("_law_one", 9)]) (g := gName 9) rfl scLTakings.nd
            (pi_list (pe_d (k := 1) N (hr.mono (by decide)) (pa_cons (pv 1) (pa_cons (pv 3) (pa_cons (pv 6) pa_nil))))) (blkOk_by (N := nLTakings) (sc := defScope sLTakings) (by decide +kernel)) (fun _ _ _ _ _ => pg_name (i := 9) scLTakings.nd rfl (Or.inl rfl))
            (fun _ _ _ _ _ => pts_one (pt_cmpR eqK (pe_ix (r := rIxT K) ix_tup (pv 2) (pv 9) (fun _ _ => rfl)) (pv 5) (nomark _))) (fun _ _ _ _ _ => pv 9)) (pe_lst pa_nil) (nomark _)))))
          (pss_cons (ps_setLc (i := 8) (own := [("_law_one", 9)]) (g := gName 9) rfl scLTakings.nd rfl rfl (sw_true rfl rfl (by rfl) (by decide +kernel))
            (pi_range1 (by rfl) T.range (pa_cons (pe_callB call_len_seq (by rfl) T.len bt_len (pa_cons (pv 2) pa_nil)) pa_nil)) (blkOk_by (N := nLTakings) (sc := defScope sLTakings) (by decide +kernel)) (fun _ _ _ _ _ => pg_name (i := 9) scLTakings.nd rfl (Or.inl rfl))
            (fun _ _ _ _ _ => pts_one (PW.pt (pw_and (pt_cmpR eqK (pe_ix (r := rIxT K) ix_tup (pv 2) (pv 9) (fun _ _ => rfl)) (pv 7) (nomark _)) (pw_and1 (pt_cmpR neK (pv 9) (pv 6) (nomark _)))))) (fun _ _ _ _ _ => pv 9))
          (pss_one (ps_if (PW.pt (pw_and (pt_cmpR (op_neD hr.units) (pv 8) (pe_lst pa_nil) (nomark _)) (pw_and1 (pt_val (pe_d (k := 2) G hr (pa_cons (pv 1) (pa_cons (pv 3) (pa_cons (pv 8) pa_nil))))))))
            (pss_one (ps_expr (pe_bm PySem.F.plainAttrs_list PySem.F.slot_list_append PySem.F.type_list_append mt_append (pv 4) (pa_cons (pe_tup (pa_cons (pv 5) (pa_cons (pv 6) pa_nil))) pa_nil)))) pss_nil))) pss_nil))))))
    (pss_one (ps_ret (pv 4))))), ?_⟩
  have I := Gd.isl
  have ha : arms ≠ 0 := by rcases I.a with e | e <;> omega
  have ha9 : arms ≤ 1000 := by rcases I.a with e | e <;> omega
  have h17 := isl_small I
  have hl4 := I.l4
  have hlm := Gd.lm
  have hl2 := Gd.l2
  have hz : (vN cells).length = arms * len + 1 := by rw [vN_len, Gd.sz]
  have ed : ((vN cells).length - 1) / arms = len := by rw [hz]; exact isl_div I
  refine ⟨_, rfl, a, _, rfl, C.t, rfl, _, _, rfl, _, _, rfl, rfl, ?_⟩
  refine ⟨_, rfl, _, _, rfl, .inr C.c, _, _, rfl, rfl, (by omega : 1 ≤ (vN cells).length), _, rfl, _, _, rfl, rfl, ⟨ha, by omega⟩, Nat.zero_le _, fun p0 hp0 => ?_⟩
  have s0 := same_new (o := .lst []) hp0
  refine ⟨_, _, rfl, ?_⟩
  refine ⟨_, rfl, c, cells.map fun n : Nat => (n : Int), rfl, by rw [← vN_ints]; exact (C.same s0).c, by rw [List.length_map, Gd.sz]; omega, fun m h1 h2 => ?_⟩
  refine ⟨lands - 1, 1, by rw [Gd.max h1 h2], rfl, ?_⟩
  have el : lands - 1 + 1 = lands := by omega
  refine ⟨_, rfl, by omega, by omega, for_range (lo := 0) (n := ((lands - 1 + 1 : Nat) : Int).toNat) (fun i σ H1 => ∃ (v5 v6 v7 v8 : Option V) (xs : List V), σ = [some (.ref a), some (.int arms), some (.ref c), some (.int len), some (.ref p0), v5, v6, v7, v8, none] ∧ Same H H1 ∧ H1 p0 = some (.lst xs) ∧
    Prs K H1 xs ((List.range i).flatMap fun l => tksOf arms len (arms * len + 1) cells l)) ⟨none, none, none, none, [], ?_, s0, upd_same, .nil⟩ ?_ ?_⟩
  · show _ = _
    rw [← ed]
    rfl
  · rintro i σ H1 hi ⟨v5, v6, v7, v8, xs, rfl, s1, e1, r1⟩
    rw [Int.zero_add]
    have hil : i < lands := by omega
    have C1 := C.same s1
    refine ⟨_, rfl, _, _, rfl, .inr C1.c, _, rfl, by omega, by omega, for_range (lo := 0) (n := ((vN cells).length : Int).toNat) (fun j σ H2 => ∃ (v6 v7 v8 : Option V) (xs : List V), σ = [some (.ref a), some (.int arms), some (.ref c), some (.int len), some (.ref p0), some (.int (i : Nat)), v6, v7, v8, none] ∧ Same H H2 ∧ H2 p0 = some (.lst xs) ∧
      Prs K H2 xs (((List.range i).flatMap fun l => tksOf arms len (arms * len + 1) cells l) ++ ((List.range j).filter fun c => dec (Made arms len cells i c)).map fun c => (i, c))) ⟨v6, v7, v8, xs, rfl, s1, e1, by rw [List.range_zero, List.filter_nil, List.map_nil, List.append_nil]; exact r1⟩ ?_ ?_⟩
    · rintro j σ H2 hj ⟨v6, v7, v8, xs, rfl, s2, e2, r2⟩
      rw [Int.zero_add]
      have hjc : j < arms * len + 1 := by rw [hz] at hj; omega
      have hjl : j < cells.length := by rw [Gd.sz]; exact hjc
      have C2 := C.same s2
      have hxl : xs.length ≤ 17 * i + j := by
        rw [r2.length, List.length_append, List.length_map]
        have h1 := tks_len Gd i (by omega)
        have h2 : ((List.range j).filter fun c => dec (Made arms len cells i c)).length ≤ j := by
          refine Nat.le_trans (List.length_filter_le _ _) ?_
          rw [List.length_range]
          exact Nat.le_refl _
        omega
      have no : ∀ {H3 : Hp} {v7 v8 : Option V}, ¬ Made arms len cells i j → Same H H3 → H3 p0 = some (.lst xs) → Same H2 H3 → ∃ (v6' v7' v8' : Option V) (xs : List V), [some (V.ref a), some (.int arms), some (.ref c), some (.int len), some (.ref p0), some (.int (i : Nat)), some (.int (j : Nat)), v7, v8, none] = [some (.ref a), some (.int arms), some (.ref c), some (.int len), some (.ref p0), some (.int (i : Nat)), v6', v7', v8', none] ∧ Same H H3 ∧ H3 p0 = some (.lst xs) ∧
          Prs K H3 xs (((List.range i).flatMap fun l => tksOf arms len (arms * len + 1) cells l) ++ ((List.range (j + 1)).filter fun c => dec (Made arms len cells i c)).map fun c => (i, c)) := by
        intro H3 v7 v8 hM s3 e3 s23
        refine ⟨_, _, _, xs, rfl, s3, e3, ?_⟩
        rw [filter_step, if_neg (by rw [dec_false hM]; decide), List.append_nil]
        exact r2.gw (PA := 0) (PM := 0) (Gw.of s23)
      refine ⟨_, rfl, _, rfl, _, _, _, _, rfl, rfl, C2.c, atI_nat (j := j) (vN_get (get_at0 hjl)), ?_⟩
      refine ⟨_, rfl, _, rfl, at0 cells j, i, rfl, rfl, _, rfl, ?_⟩
      by_cases h1 : at0 cells j = i
      · refine ifF (by rw [decide_eq_true h1]; rfl) (iteF ?_)
        exact no (fun M => M.1 h1) s2 e2 (Same.refl _)
      refine ifT (by rw [decide_eq_false h1]; rfl) ?_
      refine ⟨_, rfl, _, rfl, _, rfl, arms, len, j, rfl, I, hjc, fun H3 pq s3 hpq e3 => ?_⟩
      refine ⟨pq, rfl, ⟨_, .inl (.inl e3)⟩, fun D hD => lc_list (K := K) (a := pq) (xs := vN (snear arms len j)) (fun k H4 => Same H3 H4 ∧ H4 D = some (.lst (vN (((snear arms len j).take k).filter fun o => decide (at0 cells o = i))))) ⟨same_new hD, upd_same⟩ (fun j H4 _ h => .inl (.inl (h.1 _ _ e3))) ?_ ?_⟩
      · rintro k y H4 hy ⟨s4, e4⟩
        obtain ⟨o, ho, rfl⟩ := vN_of hy
        have hon : o < arms * len + 1 := (near_f I hjc).lt o ((mem_snear I hjc o).mp (List.mem_of_getElem? ho))
        have hol : o < cells.length := by rw [Gd.sz]; exact hon
        have C4 := C2.same (s3.trans s4)
        refine ⟨rfl, _, rfl, _, rfl, _, _, _, _, rfl, rfl, C4.c, atI_nat (j := o) (vN_get (get_at0 hol)), _, rfl, at0 cells o, i, rfl, rfl, _, rfl, ?_⟩
        rw [take_succ ho, List.filter_append, filter_one]
        by_cases h2 : at0 cells o = i
        · refine ifT (decide_eq_true h2) ?_
          refine ⟨_, rfl, _, e4, ?_, same_at hD s4, ?_⟩
          · rw [vN_len]
            refine line_lt (Nat.le_trans (List.length_filter_le _ _) ?_)
            have h6 : (snear arms len j).length ≤ 17 := by
              unfold snear
              refine Nat.le_trans (List.length_filter_le _ _) ?_
              rw [List.length_range]
              exact h17
            have h7 : ((snear arms len j).take k).length ≤ (snear arms len j).length := by rw [List.length_take]; exact Nat.min_le_right _ _
            omega
          · rw [upd_same, if_pos (decide_eq_true h2), ← vN_app]
            rfl
        · refine ifF (decide_eq_false h2) ⟨s4, ?_⟩
          rw [if_neg (by simp [h2]), List.append_nil]
          exact e4
      · rintro H4 ⟨s4, e4⟩
        rw [vN_len, List.take_length] at e4
        have s24 := s3.trans s4
        refine ⟨Nat.zero_le _, fun pe hpe => ?_⟩
        have t5 := same_new (o := .lst []) hpe
        have s25 := s24.trans t5
        refine ⟨.list (dN ((snear arms len j).filter fun o => decide (at0 cells o = i))), .list [], .lst (.inl (.inl (t5 _ _ e4))) (dpa_N _), .lst (.inl (.inl upd_same)) .nil, sh_dN _, sh_nil, _, rfl, ?_⟩
        rw [eqv_nil]
        by_cases h3 : ((snear arms len j).filter fun o => decide (at0 cells o = i)) = []
        · refine ifF (by rw [decide_eq_true (dN_nil.mpr h3)]; rfl) ?_
          refine no (fun M => ?_) (s2.trans s25) (s25 _ _ e2) s25
          obtain ⟨_, ⟨o, ho, hoi⟩, _⟩ := M
          have hm : o ∈ ((snear arms len j).filter fun o => decide (at0 cells o = i)) := List.mem_filter.mpr ⟨(mem_snear I hjc o).mpr ho, decide_eq_true hoi⟩
          rw [h3] at hm
          cases hm
        refine ifT (by rw [decide_eq_false (fun z => h3 (dN_nil.mp z))]; rfl) ?_
        have hM2 : ∃ o ∈ nearN arms len j, at0 cells o = i := by
          obtain ⟨o, ho⟩ := List.exists_mem_of_ne_nil _ h3
          obtain ⟨h4, h5⟩ := List.mem_filter.mp ho
          exact ⟨o, (mem_snear I hjc o).mp h4, of_decide_eq_true h5⟩
        have C5 := C2.same s25
        refine ⟨_, rfl, _, _, rfl, .inr C5.c, _, rfl, by omega, by omega, fun D2 hD2 => lc_range (lo := 0) (n := ((vN cells).length : Int).toNat) (fun k H6 => Same (upd H4 pe (.lst [])) H6 ∧ H6 D2 = some (.lst (vN ((List.range k).filter fun x => decide (at0 cells x = at0 cells j) && !decide (x = j))))) ⟨same_new hD2, upd_same⟩ ?_ ?_⟩
        · rintro k H6 hk ⟨s6, e6⟩
          rw [Int.zero_add]
          have hkl : k < cells.length := by rw [vN_len] at hk; omega
          have C6 := C5.same s6
          rw [filter_step]
          refine ⟨rfl, _, rfl, _, rfl, _, _, _, _, rfl, rfl, C6.c, atI_nat (j := k) (vN_get (get_at0 hkl)), _, rfl, at0 cells k, at0 cells j, rfl, rfl, _, rfl, ?_⟩
          by_cases h5 : at0 cells k = at0 cells j
          · refine ifT (decide_eq_true h5) ?_
            refine ⟨_, rfl, _, rfl, k, j, rfl, rfl, _, rfl, ?_⟩
            by_cases h6 : k = j
            · refine ifF (by rw [decide_eq_true h6]; rfl) ⟨s6, ?_⟩
              rw [if_neg (by simp [h6]), List.append_nil]
              exact e6
            · refine ifT (by rw [decide_eq_false h6]; rfl) ?_
              refine ⟨_, rfl, _, e6, ?_, same_at hD2 s6, ?_⟩
              · rw [vN_len]
                refine line_lt (Nat.le_trans (List.length_filter_le _ _) ?_)
                rw [List.length_range]
                rw [Gd.sz] at hkl
                omega
              · rw [upd_same, if_pos (by simp [h5, h6]), ← vN_app]
                rfl
          · refine ifF (decide_eq_false h5) (iteF ⟨s6, ?_⟩)
            rw [if_neg (by simp [h5]), List.append_nil]
            exact e6
        · rintro H6 ⟨s6, e6⟩
          have en : ((vN cells).length : Int).toNat = cells.length := by rw [vN_len]; omega
          rw [en, rest_filter] at e6
          refine ⟨_, rfl, Nat.zero_le _, fun pe2 hpe2 => ?_⟩
          have t7 := same_new (o := .lst []) hpe2
          have s27 := (s25.trans s6).trans t7
          have e7 := t7 _ _ e6
          refine ⟨.list (dN (restN cells (at0 cells j) j)), .list [], .lst (.inl (.inl e7)) (dpa_N _), .lst (.inl (.inl upd_same)) .nil, sh_dN _, sh_nil, _, rfl, ?_⟩
          rw [eqv_nil]
          by_cases h7 : restN cells (at0 cells j) j = []
          · refine ifF (by rw [decide_eq_true (dN_nil.mpr h7)]; rfl) ?_
            exact iteF (no (fun M => M.2.2.1 h7) (s2.trans s27) (s27 _ _ e2) s27)
          refine ifT (by rw [decide_eq_false (fun z => h7 (dN_nil.mp z))]; rfl) ?_
          refine ⟨_, rfl, _, rfl, _, rfl, D2, arms, len, restN cells (at0 cells j) j, rfl, I, .inl (.inl e7), rest_nd _ _ _, fun x hx => ?_, fun H8 s8 => ⟨_, rfl, ?_⟩⟩
          · have := (mem_rest.mp hx).1.1
            rw [Gd.sz] at this
            exact this
          have s28 := s27.trans s8
          cases hd : dec (Conn (nearN arms len) (restN cells (at0 cells j) j)) with
          | false =>
            refine iteF (no (fun M => ?_) (s2.trans s28) (s28 _ _ e2) s28)
            rw [dec_true M.2.2] at hd
            cases hd
          | true =>
            have hM : Made arms len cells i j := ⟨h1, hM2, dec_iff.mp hd⟩
            have e8 := s28 _ _ e2
            refine iteT ⟨_, rfl, .inl ⟨rfl, _, .inl (.inl e8)⟩, _, rfl, _, rfl, (by show 2 ≤ sizeLine; exact line_le (by decide)), fun q hq => ?_⟩
            have t9 := same_new (o := .tup [.int (i : Nat), .int (j : Nat)]) hq
            have e9 := t9 _ _ e8
            refine ⟨_, _, _, rfl, rfl, e9, line_lt (by omega), ?_⟩
            refine ⟨_, _, _, _, rfl, same_at hp0 (s2.trans (s28.trans t9)), upd_same, ?_⟩
            rw [filter_step, if_pos (dec_true hM), List.map_append, ← List.append_assoc]
            exact Prs.upd (paired_app (r2.gw (PA := 0) (PM := 0) (Gw.of (s28.trans t9))) (.cons ⟨q, rfl, .inl (.inl upd_same)⟩ .nil)) e9
    · rintro σ H2 ⟨v6, v7, v8, xs, rfl, s2, e2, r2⟩
      refine ⟨_, _, _, _, xs, rfl, s2, e2, ?_⟩
      rw [List.range_succ, List.flatMap_append, List.flatMap_singleton]
      have en : ((vN cells).length : Int).toNat = arms * len + 1 := by rw [hz]; omega
      rw [en] at r2
      exact r2
  · rintro σ H2 ⟨v5, v6, v7, v8, xs, rfl, s2, e2, r2⟩
    have en : ((lands - 1 + 1 : Nat) : Int).toNat = lands := by omega
    rw [en] at r2
    exact ⟨_, rfl, kQ H2 p0 xs s2 hp0 e2 r2⟩
end
end SK
end

section
namespace SK
open PySem PySem.Spec PyProof.Rows L2 GxR SKG SKR
section
variable {P : Program} {w : World} {K : PySem.W.Frag} {mg : Str → Option Value} {base : Heap} {f : Addr} {fd : FuncData} {PA PM : Addr}
/-! ### _law_behind -/
def spLBehind (K : PySem.W.Frag) : Sp := fun vs H Q _ => ∃ (a c t : Addr) (arms land cell : Nat) (cells : List Nat), vs = [.ref a, .ref t] ∧ ChAt K H a c arms cells ∧ SqT K H t [.int (land : Nat), .int (cell : Nat)] ∧ cell < cells.length ∧ cells.length ≤ 1000 ∧
  ∀ H' p q, Same H H' → ChAt K H' p q arms (cells.set cell land) → Q (.ref p) H'
theorem scLBehind : FnScope ["_law_chart", "_law_taking", "_law_land", "_law_cell"] ["_law_chart", "_law_taking"] (defScope sLBehind) := ⟨rfl, rfl, rfl, by decide +kernel, rfl, by decide +kernel, by decide +kernel⟩
theorem ok_lBehind (F : Fun K "_law_behind" "_law_behind" sLBehind f fd) (T : Txt mg) : FnOk P w K mg base CX0 1 f fd ["_law_chart", "_law_taking"] (spLBehind K) := by
  refine F.ok scLBehind (fun vs H Q E h => ?_) (fun cdv A outer s H vs Q E hr h => ?_)
  · obtain ⟨_, _, _, _, _, _, _, rfl, _⟩ := h
    rfl
  obtain ⟨a, c, t, arms, land, cell, cells, rfl, C, S, hc, hz, kQ⟩ := h
  refine ⟨_, pss_cons (ps_asg (pv 1) (pg_tup (n := 2) rfl (pgs_cons (pg_name (i := 2) scLBehind.nd rfl (Or.inl rfl)) (pgs_cons (pg_name (i := 3) scLBehind.nd rfl (Or.inl rfl)) pgs_nil))))
    (pss_one (ps_ret (pe_tup (pa_cons (pe_ix ix_tup (pv 0) (pn 0) (fun _ _ => rfl)) (pa_cons (pe_op op_catA (pe_op op_catA (pe_slice sl_tupA (pe_ix ix_tup (pv 0) (pn 1) (fun _ _ => rfl)) po_none (po_some (pv 3)))
      (pe_tup (pa_cons (pv 2) pa_nil))) (pe_slice sl_tupA (pe_ix ix_tup (pv 0) (pn 1) (fun _ _ => rfl)) (po_some (pe_op addK (pv 3) (pn 1))) po_none)) pa_nil))))), ?_⟩
  have hl : (vN cells).length = cells.length := vN_len cells
  refine ⟨_, rfl, t, _, rfl, S, rfl, _, _, rfl, _, _, rfl, rfl, ?_⟩
  refine ⟨_, rfl, _, _, _, _, rfl, rfl, C.t, atI_nat (j := 0) rfl, _, rfl, _, _, _, _, rfl, rfl, C.t, atI_nat (j := 1) rfl, _, rfl, _, rfl, c, vN cells, rfl, C.c, fun hw => ?_, fun _ p1 hp1 => ?_⟩
  · obtain ⟨_, h2⟩ := hw
    rw [HT.sIx_nat, hl] at h2
    omega
  have s1 := same_new (o := .tup (cutV (vN cells) none (some (cell : Int)))) hp1
  refine ⟨_, rfl, (by show 1 ≤ sizeLine; exact line_le (by decide)), fun p2 hp2 => ?_⟩
  have s12 := same_new (o := .tup [.int (land : Nat)]) hp2
  have s2 := s1.trans s12
  have el : cutV (vN cells) none (some (cell : Int)) = (vN cells).take cell := cut_lo (by omega)
  have eh : cutV (vN cells) (some ((cell + 1 : Nat) : Int)) none = (vN cells).drop (cell + 1) := cut_hi (by omega)
  have hS1 : SqT K (upd (upd H p1 (.tup (cutV (vN cells) none (some (cell : Int))))) p2 (.tup [.int (land : Nat)])) p1 ((vN cells).take cell) := by
    have q := s12 p1 _ upd_same
    rw [el] at q ⊢
    exact .inl (.inl q)
  have e := vN_set (cells := cells) (cell := cell) (land := land) hc
  rw [List.append_nil] at e
  have hlt : ((vN cells).take cell).length = cell := by rw [List.length_take, hl]; omega
  have hld : ((vN cells).drop (cell + 1)).length = cells.length - (cell + 1) := by rw [List.length_drop, hl]
  refine ⟨p1, p2, _, _, rfl, rfl, hS1, .inl (.inl upd_same), by rw [hlt]; exact line_le (by show cell + 1 ≤ 1000000; omega), fun h0 => ?_, fun _ h => (by cases h), fun h0 _ p3 hp3 => ?_⟩
  · have C2 := C.same s2
    refine ⟨_, rfl, _, _, _, _, rfl, rfl, C2.t, atI_nat (j := 1) rfl, _, rfl, _, _, rfl, rfl, _, rfl, c, vN cells, rfl, C2.c, fun hw => ?_, fun _ p4 hp4 => ?_⟩
    · obtain ⟨h1, _⟩ := hw
      rw [HT.sIx_nat, hl] at h1
      omega
    have s34 := same_new (o := .tup (cutV (vN cells) (some ((cell + 1 : Nat) : Int)) none)) hp4
    have s4 := s2.trans s34
    have hS4 : SqT K (upd (upd (upd H p1 (.tup (cutV (vN cells) none (some (cell : Int))))) p2 (.tup [.int (land : Nat)])) p4 (.tup (cutV (vN cells) (some ((cell + 1 : Nat) : Int)) none))) p4 ((vN cells).drop (cell + 1)) := by
      rw [eh]
      exact .inl (.inl upd_same)
    rw [h0, List.nil_append] at e
    refine ⟨p2, p4, _, _, rfl, rfl, .inl (.inl (s34 p2 _ upd_same)), hS4, by rw [hld]; exact line_le (by show 1 + _ ≤ 1000000; omega), fun h => (by cases h), fun _ h1 => ?_, fun _ _ p5 hp5 => ?_⟩
    · rw [h1] at e
      refine ⟨(by show 2 ≤ sizeLine; exact line_le (by decide)), fun p hp => ?_⟩
      have s5 := same_new (o := .tup [.int (arms : Nat), .ref p2]) hp
      refine kQ _ p p2 (s4.trans s5) ⟨.inl (.inl upd_same), ?_⟩
      rw [← e]
      exact .inl (.inl (s5 _ _ (s34 _ _ upd_same)))
    · have s45 := same_new (o := .tup ([V.int (land : Nat)] ++ (vN cells).drop (cell + 1))) hp5
      refine ⟨(by show 2 ≤ sizeLine; exact line_le (by decide)), fun p hp => ?_⟩
      have s5 := same_new (o := .tup [.int (arms : Nat), .ref p5]) hp
      refine kQ _ p p5 ((s4.trans s45).trans s5) ⟨.inl (.inl upd_same), ?_⟩
      rw [← e]
      exact .inl (.inl (s5 _ _ upd_same))
  · have s23 := same_new (o := .tup ((vN cells).take cell ++ [V.int (land : Nat)])) hp3
    have s3 := s2.trans s23
    have C2 := C.same s3
    refine ⟨_, rfl, _, _, _, _, rfl, rfl, C2.t, atI_nat (j := 1) rfl, _, rfl, _, _, rfl, rfl, _, rfl, c, vN cells, rfl, C2.c, fun hw => ?_, fun _ p4 hp4 => ?_⟩
    · obtain ⟨h1, _⟩ := hw
      rw [HT.sIx_nat, hl] at h1
      omega
    have s34 := same_new (o := .tup (cutV (vN cells) (some ((cell + 1 : Nat) : Int)) none)) hp4
    have s4 := s3.trans s34
    refine ⟨p3, p4, (vN cells).take cell ++ [V.int (land : Nat)], (vN cells).drop (cell + 1), rfl, rfl, .inl (.inl (s34 p3 _ upd_same)), (by rw [eh]; exact .inl (.inl upd_same)), by rw [List.length_append, hlt, hld]; exact line_le (by show cell + 1 + _ ≤ 1000000; omega), fun h => (by simp at h), fun _ h1 => ?_, fun _ _ p5 hp5 => ?_⟩
    · rw [h1] at e
      refine ⟨(by show 2 ≤ sizeLine; exact line_le (by decide)), fun p hp => ?_⟩
      have s5 := same_new (o := .tup [.int (arms : Nat), .ref p3]) hp
      refine kQ _ p p3 (s4.trans s5) ⟨.inl (.inl upd_same), ?_⟩
      rw [← e]
      exact .inl (.inl (s5 _ _ (s34 _ _ upd_same)))
    · have s45 := same_new (o := .tup ((vN cells).take cell ++ [V.int (land : Nat)] ++ (vN cells).drop (cell + 1))) hp5
      refine ⟨(by show 2 ≤ sizeLine; exact line_le (by decide)), fun p hp => ?_⟩
      have s5 := same_new (o := .tup [.int (arms : Nat), .ref p5]) hp
      refine kQ _ p p5 ((s4.trans s45).trans s5) ⟨.inl (.inl upd_same), ?_⟩
      have e' : (vN cells).take cell ++ [V.int (land : Nat)] ++ (vN cells).drop (cell + 1) = vN (cells.set cell land) := by rw [List.append_assoc]; exact e
      rw [← e']
      exact .inl (.inl (s5 _ _ upd_same))

end
end SK
end

section
namespace SK
open PySem PySem.Spec PyProof.Rows L2 GxR SKG SKR
/-! ### all but the row of draws stays -/
structure Kp (r : Addr) (H H' : Hp) : Prop where
  keep : ∀ b o, b ≠ r → H b = some o → H' b = some o
  free : ∀ b, H' b = none → H b = none
theorem Kp.refl {r : Addr} (H : Hp) : Kp r H H := ⟨fun _ _ _ h => h, fun _ h => h⟩
theorem Kp.trans {r : Addr} {H H1 H' : Hp} (a : Kp r H H1) (b : Kp r H1 H') : Kp r H H' := ⟨fun c o n h => b.keep c o n (a.keep c o n h), fun c h => a.free c (b.free c h)⟩
theorem Kp.of {r : Addr} {H H' : Hp} (e : Same H H') : Kp r H H' := ⟨fun b o _ h => e b o h, fun l h => e.free h⟩
section
variable {K : PySem.W.Frag} {H H' : Hp} {r sc : Addr} {ns : List Int} {PA PM : Addr}
theorem Dr.kp (d : Dr r sc H H') (h : Rw K H r sc ns) : Kp r H H' := by
  obtain ⟨i, x, z, rfl, _, _⟩ := d.ex
  obtain ⟨_, _, _, h1, _⟩ := h.ex
  refine ⟨fun b o n e => by rw [upd_ne n]; exact e, fun b e => ?_⟩
  by_cases hb : b = r
  · subst hb
    rw [upd_same] at e
    cases e
  · rw [upd_ne hb] at e
    exact e
theorem Rw.lst (h : Rw K H r sc ns) : ∃ ys, H r = some (.lst ys) := let ⟨_, _, _, h1, _⟩ := h.ex; ⟨_, h1⟩
theorem sqT_kp {a : Addr} {xs : List V} (e : Kp r H H') (R : Rw K H r sc ns) (h : SqT K H a xs) : SqT K H' a xs := by
  obtain ⟨ys, hr⟩ := R.lst
  rcases h with (h | ⟨o, h⟩) | h
  · exact .inl (.inl (e.keep _ _ (ne_of h hr (by intro z; cases z)) h))
  · exact .inl (.inr ⟨o, e.keep _ _ (ne_of h hr (by intro z; cases z)) h⟩)
  · exact .inr h
theorem sqL_kp {a : Addr} {xs : List V} (e : Kp r H H') (n : a ≠ r) (h : SqL K H a xs) : SqL K H' a xs := by
  rcases h with (h | ⟨o, h⟩) | h
  · exact .inl (.inl (e.keep _ _ n h))
  · exact .inl (.inr ⟨o, e.keep _ _ n h⟩)
  · exact .inr h
theorem ChAt.kp {a c : Addr} {arms : Nat} {cells : List Nat} (h : ChAt K H a c arms cells) (e : Kp r H H') (R : Rw K H r sc ns) : ChAt K H' a c arms cells := ⟨sqT_kp e R h.t, sqT_kp e R h.c⟩
theorem IsTk.kp {x : V} {t : Nat × Nat} (h : IsTk K H x t) (e : Kp r H H') (R : Rw K H r sc ns) : IsTk K H' x t := let ⟨q, h1, h2⟩ := h; ⟨q, h1, sqT_kp e R h2⟩
theorem Prs.kp {xs : List V} {ts : List (Nat × Nat)} (h : Prs K H xs ts) (e : Kp r H H') (R : Rw K H r sc ns) : Prs K H' xs ts := Paired.mapP h fun _ _ z => IsTk.kp z e R
theorem TabG.kp {P : Addr} (h : TabG H P) (e : Kp r H H') (R : Rw K H r sc ns) : TabG H' P := by
  obtain ⟨ps, h1, h2⟩ := h
  obtain ⟨ys, hr⟩ := R.lst
  exact ⟨ps, e.keep _ _ (ne_of h1 hr (by intro z; cases z)) h1, h2⟩
theorem Rw.gw (h : Rw K H r sc ns) (e : Gw PA PM H H') : Rw K H' r sc ns := by
  obtain ⟨i, x, z, h1, h2, h3⟩ := h.ex
  exact ⟨⟨i, x, z, e.keep _ _ h1 (fun ps q => by cases q), h2, h3⟩, sqL_gw e h.S, h.ne, h.len⟩
theorem Rw.same (h : Rw K H r sc ns) (e : Same H H') : Rw K H' r sc ns := h.gw (PA := 0) (PM := 0) (Gw.of e)
/-- a change to another list -/
theorem Rw.upd {H0 : Hp} {p : Addr} {o : HO} (h : Rw K H r sc ns) (R0 : Rw K H0 r sc ns) (n : p ≠ r) (n2 : H0 p = none) : Rw K (L2.upd H p o) r sc ns := by
  obtain ⟨i, x, z, h1, h2, h3⟩ := h.ex
  refine ⟨⟨i, x, z, by rw [upd_ne (Ne.symm n)]; exact h1, h2, h3⟩, ?_, h.ne, h.len⟩
  rcases R0.S with (S | ⟨u, S⟩) | S
  · exact sqL_upd h.S (ne_of_none S n2)
  · exact sqL_upd h.S (ne_of_none S n2)
  · exact .inr S
theorem kp_at {p : Addr} {o : HO} (hp : H p = none) (e : Kp r H H') : Kp r H (L2.upd H' p o) := by
  refine ⟨fun b u n h => ?_, fun b h => ?_⟩
  · rw [upd_ne (ne_of_none h hp)]
    exact e.keep b u n h
  · by_cases hb : b = p
    · rw [hb]; exact hp
    · rw [upd_ne hb] at h
      exact e.free b h
end
section
variable {P : Program} {w : World} {K : PySem.W.Frag} {mg : Str → Option Value} {base : Heap} {f : Addr} {fd : FuncData} {PA PM : Addr}
/-! ### _law_walk -/
def spLWalk (K : PySem.W.Frag) : Sp := fun vs H Q _ => ∃ (r sc a c : Addr) (ns : List Int) (arms len lands many : Nat) (cells : List Nat), vs = [.ref r, .ref a, .int many] ∧ Rw K H r sc ns ∧ ChAt K H a c arms cells ∧ Good arms len lands cells ∧ many ≤ 30 ∧
  ∀ H' p t b cb xs ts, Kp r H H' → Rw K H' r sc ns → H' p = some (.tup [.ref t, .ref b]) → H' t = some (.tup xs) → Prs K H' xs ts → ChAt K H' b cb arms (fint cells ts) → MadeAll arms len cells ts → InAll lands (arms * len + 1) ts → ts.length ≤ many → Q (.ref p) H'
theorem scLWalk : FnScope ["_law_row", "_law_chart", "_law_many", "_law_steps", "_law_turn", "_law_some"] ["_law_row", "_law_chart", "_law_many"] (defScope sLWalk) := ⟨rfl, rfl, rfl, by decide +kernel, rfl, by decide +kernel, by decide +kernel⟩
theorem ok_lWalk (F : Fun K "_law_walk" "_law_walk" sLWalk f fd) (T : Txt mg) (DT : Dn P w K mg base CX0 3 "_law_takings" ["_law_chart"] (spLTakings K)) (DP : Dn P w K mg base CX0 2 "_law_pick" ["_law_row", "_law_things"] (spLPick K)) (DB : Dn P w K mg base CX0 1 "_law_behind" ["_law_chart", "_law_taking"] (spLBehind K)) :
    FnOk P w K mg base CX0 4 f fd ["_law_row", "_law_chart", "_law_many"] (spLWalk K) := by
  refine F.ok scLWalk (fun vs H Q E h => ?_) (fun cdv A outer s H vs Q E hr h => ?_)
  · obtain ⟨_, _, _, _, _, _, _, _, _, _, rfl, _⟩ := h
    rfl
  obtain ⟨r, sc, a, c, ns, arms, len, lands, many, cells, rfl, R, C, Gd, hm, kQ⟩ := h
  refine ⟨_, pss_cons (ps_set (i := 3) scLWalk.nd rfl (Or.inl rfl) (pe_lst pa_nil))
    (pss_cons (ps_for PassesOwn.never rfl (pi_range1 (by rfl) T.range (pa_cons (pv 2) pa_nil)) (pg_name (i := 4) scLWalk.nd rfl (Or.inl rfl))
      (pss_cons (ps_set (i := 5) scLWalk.nd rfl (Or.inl rfl) (pe_d (k := 3) DT hr (pa_cons (pv 1) pa_nil)))
      (pss_one (ps_if (pt_cmpR (op_neD hr.units) (pv 5) (pe_lst pa_nil) (nomark _))
        (pss_cons (ps_expr (pe_bm PySem.F.plainAttrs_list PySem.F.slot_list_append PySem.F.type_list_append mt_append (pv 3) (pa_cons (pe_d (k := 2) DP (hr.mono (by decide)) (pa_cons (pv 0) (pa_cons (pv 5) pa_nil))) pa_nil)))
        (pss_one (ps_set (i := 1) scLWalk.nd rfl (Or.inl rfl) (pe_d (k := 1) DB (hr.mono (by decide)) (pa_cons (pv 1) (pa_cons (pe_ix ix_list (pv 3) (pe_un un_neg pe_int) (fun _ _ => rfl)) pa_nil)))))) pss_nil))))
    (pss_one (ps_ret (pe_tup (pa_cons (pe_callTy call_tuple_of (by rfl) T.tuple bt_tuple (pa_cons (pv 3) pa_nil)) (pa_cons (pv 1) pa_nil)))))), ?_⟩
  have I := Gd.isl
  have h17 := isl_small I
  have hl4 := I.l4
  have hlm := Gd.lm
  refine ⟨Nat.zero_le _, fun ps hps => ?_⟩
  have s0 := same_new (o := .lst []) hps
  have nps : ps ≠ r := fun z => by
    obtain ⟨ys, h⟩ := R.lst
    rw [z, h] at hps
    cases hps
  refine ⟨_, rfl, _, rfl, by omega, by omega, for_range (lo := 0) (n := (many : Int).toNat) (fun i σ H1 => ∃ (b cb : Addr) (v4 v5 : Option V) (xs : List V) (ts : List (Nat × Nat)), σ = [some (.ref r), some (.ref b), some (.int (many : Nat)), some (.ref ps), v4, v5] ∧ Kp r H H1 ∧ Rw K H1 r sc ns ∧ H1 ps = some (.lst xs) ∧
    Prs K H1 xs ts ∧ ChAt K H1 b cb arms (fint cells ts) ∧ MadeAll arms len cells ts ∧ InAll lands (arms * len + 1) ts ∧ ts.length ≤ i) ⟨a, c, none, none, [], [], rfl, Kp.of s0, R.same s0, upd_same, .nil, C.same s0, MadeAll.nil, fun t h => (by cases h), Nat.le_refl _⟩ ?_ ?_⟩
  · rintro i σ H1 hi ⟨b, cb, v4, v5, xs, ts, rfl, k1, R1, e1, r1, C1, M1, A1, l1⟩
    rw [Int.zero_add]
    have G1 := M1.good Gd A1
    refine ⟨_, rfl, b, cb, arms, len, lands, _, rfl, C1, G1, fun H2 q ys s2 hq e2 r2 => ?_⟩
    refine ⟨_, rfl, Nat.zero_le _, fun pe hpe => ?_⟩
    have t3 := same_new (o := .lst []) hpe
    have s3 := s2.trans t3
    have e3 := t3 _ _ e2
    have r3 : Prs K _ ys _ := r2.gw (PA := 0) (PM := 0) (Gw.of t3)
    have R3 := R1.same s3
    have C3 := C1.same s3
    refine ⟨.list ((tks arms len lands (fint cells ts)).map dP), .list [], .lst (.inl (.inl e3)) r3.dp, .lst (.inl (.inl upd_same)) .nil, sh_dPs _, sh_nil, _, rfl, ?_⟩
    rw [eqv_nil]
    have k3 := k1.trans (Kp.of s3)
    have x3 := s3 _ _ e1
    have p3 : Prs K _ xs ts := r1.gw (PA := 0) (PM := 0) (Gw.of s3)
    by_cases h0 : tks arms len lands (fint cells ts) = []
    · refine ifF (by rw [decide_eq_true (dPs_nil.mpr h0)]; rfl) ?_
      exact ⟨b, cb, _, _, xs, ts, rfl, k3, R3, x3, p3, C3, M1, A1, by omega⟩
    refine ifT (by rw [decide_eq_false (fun z => h0 (dPs_nil.mp z))]; rfl) ?_
    have nq : q ≠ r := fun z => by
      obtain ⟨ys', h⟩ := R1.lst
      rw [z, h] at hq
      cases hq
    have hyl : ys.length = (tks arms len lands (fint cells ts)).length := r3.length
    have hy1 : 1 ≤ ys.length := by
      rw [hyl]
      exact List.length_pos_iff.mpr h0
    have hy2 : ys.length ≤ 1000 := by
      rw [hyl]
      have := tks_len G1 lands (Nat.le_refl _)
      have e : tks arms len lands (fint cells ts) = (List.range lands).flatMap fun l => tksOf arms len (arms * len + 1) (fint cells ts) l := rfl
      rw [e]
      omega
    refine ⟨_, rfl, .inl ⟨rfl, _, .inl (.inl x3)⟩, _, rfl, _, rfl, r, sc, q, ns, ys, rfl, R3, .inl (.inl e3), nq, hy1, hy2, fun j x H4 hx d4 => ?_⟩
    have k4 := d4.kp R3
    have R4 := d4.rw R3
    have x4 := k4.keep _ _ nps x3
    obtain ⟨⟨l, cl⟩, ht, hxt⟩ := paired_got r3 hx
    obtain ⟨hl, hc, hM⟩ := mem_tks.mp (List.mem_of_getElem? ht)
    have hxt4 := hxt.kp k4 R3
    have p4 := p3.kp k4 R3
    have C4 := C3.kp k4 R3
    have hxl : xs.length = ts.length := p3.length
    refine ⟨_, _, _, rfl, rfl, x4, line_lt (by omega), ?_⟩
    have R5 := R4.upd (o := .lst (xs ++ [x])) R nps hps
    have p5 : Prs K (upd H4 ps (.lst (xs ++ [x]))) (xs ++ [x]) (ts ++ [(l, cl)]) := Prs.upd (paired_app p4 (.cons hxt4 .nil)) x4
    have C5 := C4.upd (o := .lst (xs ++ [x])) x4
    obtain ⟨qx, rfl, S5⟩ := hxt4.upd (o := .lst (xs ++ [x])) x4
    have hsz : (fint cells ts).length = arms * len + 1 := G1.sz
    refine ⟨_, rfl, _, rfl, _, rfl, _, _, _, _, rfl, rfl, .inl (.inl upd_same), atI_last _ _, b, cb, qx, arms, l, cl, fint cells ts, rfl, C5, S5, by rw [hsz]; exact hc, by omega, fun H6 p q6 s6 C6 => ?_⟩
    have A6 : InAll lands (arms * len + 1) (ts ++ [(l, cl)]) := fun t h => by
      rcases List.mem_append.mp h with z | z
      · exact A1 t z
      · rw [List.mem_singleton.mp z]; exact ⟨hl, hc⟩
    refine ⟨p, q6, _, _, _, ts ++ [(l, cl)], rfl, ?_, R5.same s6, s6 _ _ upd_same, p5.gw (PA := 0) (PM := 0) (Gw.of s6), ?_, M1.snoc hM, A6, by rw [List.length_append, List.length_singleton]; omega⟩
    · exact (kp_at hps (k3.trans k4)).trans (Kp.of s6)
    · rw [fint_snoc]
      exact C6
  · rintro σ H1 ⟨b, cb, v4, v5, xs, ts, rfl, k1, R1, e1, r1, C1, M1, A1, l1⟩
    refine ⟨_, rfl, ps, xs, rfl, .inl ⟨.inl (.inl e1), fun q hq => ?_⟩⟩
    have s2 := same_new (o := .tup xs) hq
    refine ⟨_, rfl, (by show 2 ≤ sizeLine; exact line_le (by decide)), fun p hp => ?_⟩
    have s3 := same_new (o := .tup [.ref q, .ref b]) hp
    have s := s2.trans s3
    exact kQ _ p q b cb xs ts (k1.trans (Kp.of s)) (R1.same s) upd_same (s3 _ _ upd_same) (r1.gw (PA := 0) (PM := 0) (Gw.of s)) (C1.same s) M1 A1 (by omega)
/-! ### _law_island -/
def spLIsland (K : PySem.W.Frag) : Sp := fun vs H Q _ => ∃ (r sc : Addr) (ns : List Int), vs = [.ref r, .int ((4 : Nat) : Int)] ∧ Rw K H r sc ns ∧
  ∀ H' p arms len lands, Kp r H H' → Isl arms len → 2 ≤ lands → lands ≤ len + 1 → Rw K H' r sc ns → H' p = some (.tup [.int (arms : Nat), .int (len : Nat), .int (lands : Nat)]) → Q (.ref p) H'
theorem scLIsland : FnScope ["_law_row", "_law_most", "_law_length"] ["_law_row", "_law_most"] (defScope sLIsland) := ⟨rfl, rfl, rfl, by decide +kernel, rfl, by decide +kernel, by decide +kernel⟩
theorem ok_lIsland (F : Fun K "_law_island" "_law_island" sLIsland f fd) (T : Txt mg) (DT : Dn P w K mg base CX0 1 "_law_taken" ["_law_row", "_law_many"] (spLTaken K)) : FnOk P w K mg base CX0 2 f fd ["_law_row", "_law_most"] (spLIsland K) := by
  refine F.ok scLIsland (fun vs H Q E h => ?_) (fun cdv A outer s H vs Q E hr h => ?_)
  · obtain ⟨_, _, _, rfl, _⟩ := h
    rfl
  obtain ⟨r, sc, ns, rfl, R, kQ⟩ := h
  refine ⟨_, pss_cons (ps_set (i := 2) scLIsland.nd rfl (Or.inl rfl) (pe_op addK (pn 1) (pe_d (k := 1) DT hr (pa_cons (pv 0) (pa_cons (pv 1) pa_nil)))))
    (pss_one (ps_ret (pe_tup (pa_cons (pe_op addK (pn 3) (pe_d (k := 1) DT hr (pa_cons (pv 0) (pa_cons (pn 2) pa_nil)))) (pa_cons (pv 2) (pa_cons (pe_op addK (pn 2) (pe_d (k := 1) DT hr (pa_cons (pv 0) (pa_cons (pv 2) pa_nil)))) pa_nil)))))), ?_⟩
  refine ⟨_, rfl, _, rfl, r, sc, ns, 4, rfl, R, by decide, by decide, fun n1 H1 hn1 d1 => ?_⟩
  have R1 := d1.rw R
  refine ⟨1, n1, rfl, rfl, ?_⟩
  refine ⟨_, rfl, r, sc, ns, 2, rfl, R1, by decide, by decide, fun n2 H2 hn2 d2 => ?_⟩
  have R2 := d2.rw R1
  refine ⟨3, n2, rfl, rfl, _, rfl, _, rfl, _, rfl, r, sc, ns, 1 + n1, rfl, R2, by omega, by omega, fun n3 H3 hn3 d3 => ?_⟩
  have R3 := d3.rw R2
  refine ⟨2, n3, rfl, rfl, (by show 3 ≤ sizeLine; exact line_le (by decide)), fun p hp => ?_⟩
  have s4 := same_new (o := .tup [.int ((3 + n2 : Nat) : Int), .int ((1 + n1 : Nat) : Int), .int ((2 + n3 : Nat) : Int)]) hp
  refine kQ _ p (3 + n2) (1 + n1) (2 + n3) ((((d1.kp R).trans (d2.kp R1)).trans (d3.kp R2)).trans (Kp.of s4)) ⟨by omega, by omega, by omega⟩ (by omega) (by omega) ?_ upd_same
  obtain ⟨i, x, z, h1, h2, h3⟩ := R3.ex
  exact ⟨⟨i, x, z, s4 _ _ h1, h2, h3⟩, s4.seq R3.S, R3.ne, R3.len⟩
end
end SK
end

section
namespace SK
open PySem PySem.Spec PyProof.Rows L2 GxR SKG SKR
theorem r65 {k : Nat} {A : Around} (r : Room k A) : A.units + 65 < cLine := by have := r.un; omega
theorem rgV_vN (n : Nat) : rgV 0 ((n : Nat) : Int) = vN (List.range n) := by
  unfold rgV vN
  have e : ((n : Int) - 0).toNat = n := by omega
  rw [e]
  refine List.map_congr_left fun i _ => ?_
  rw [Int.zero_add]
section
variable {P : Program} {w : World} {K : PySem.W.Frag} {mg : Str → Option Value} {base : Heap} {f : Addr} {fd : FuncData} {PA PM : Addr}
/-! ### _law_map -/
def spLMap (K : PySem.W.Frag) : Sp := fun vs H Q _ => ∃ (r sc : Addr) (ns : List Int) (arms len lands : Nat), vs = [.ref r, .int arms, .int len, .int lands] ∧ Rw K H r sc ns ∧ Isl arms len ∧ 2 ≤ lands ∧ lands ≤ len + 1 ∧
  ∀ H' p q cells, Kp r H H' → Rw K H' r sc ns → ChAt K H' p q arms cells → Good arms len lands cells → Q (.ref p) H'
abbrev nLMap : List Str := ["_law_row", "_law_arms", "_law_length", "_law_lands", "_law_left", "_law_cuts", "_law_arm", "_law_turn", "_law_one", "_law_names", "_law_order", "_law_cells", "_law_used", "_law_land", "_law_step", "_law_pair", "_law_k"]
theorem scLMap : FnScope nLMap ["_law_row", "_law_arms", "_law_length", "_law_lands"] (defScope sLMap) := ⟨rfl, rfl, rfl, by decide +kernel, rfl, by decide +kernel, by decide +kernel⟩
theorem ok_lMap (F : Fun K "_law_map" "_law_map" sLMap f fd) (T : Txt mg) (DP : Dn P w K mg base CX0 2 "_law_pick" ["_law_row", "_law_things"] (spLPick K)) : FnOk P w K mg base CX0 3 f fd ["_law_row", "_law_arms", "_law_length", "_law_lands"] (spLMap K) := by
  refine F.ok scLMap (fun vs H Q E h => ?_) (fun cdv A outer s H vs Q E hr h => ?_)
  · obtain ⟨_, _, _, _, _, _, rfl, _⟩ := h
    rfl
  obtain ⟨r, sc, ns, arms, len, lands, rfl, R, I, hl2, hlm, kQ⟩ := h
  refine ⟨_, pss_cons (ps_par (i := 4) (j := 5) rfl scLMap.nd rfl rfl (by decide) rfl rfl (pa_cons (pe_lst pa_nil) (pa_cons (pe_lst pa_nil) pa_nil)) (by rfl))
    (pss_cons (ps_for PassesOwn.never rfl (pi_range1 (by rfl) T.range (pa_cons (pv 1) pa_nil)) (pg_name (i := 6) scLMap.nd rfl (Or.inr rfl))
      (pss_one (ps_set (i := 4) scLMap.nd rfl (Or.inl rfl) (pe_op op_cat (pv 4) (pe_lc (own := [("_law_step", 14)]) (g := gName 14) (tt := tYes) rfl scLMap.nd (pi_range1 (by rfl) T.range (pa_cons (pv 2) pa_nil)) (blkOk_by (N := nLMap) (sc := defScope sLMap) (by decide +kernel))
        (fun _ _ _ _ _ => pg_name (i := 14) scLMap.nd rfl (Or.inl rfl)) (fun _ _ _ _ _ => pts_nil) (fun _ _ _ _ _ => pe_tup (pa_cons (pv 6) (pa_cons (pv 14) pa_nil))))))))
    (pss_cons (ps_for PassesOwn.never rfl (pi_range1 (by rfl) T.range (pa_cons (pe_op subK (pv 3) (pn 1)) pa_nil)) (pg_name (i := 7) scLMap.nd rfl (Or.inl rfl))
      (pss_cons (ps_set (i := 8) scLMap.nd rfl (Or.inr rfl) (pe_d (k := 2) DP hr (pa_cons (pv 0) (pa_cons (pv 4) pa_nil))))
      (pss_one (ps_par (i := 5) (j := 4) rfl scLMap.nd rfl rfl (by decide) rfl rfl (pa_cons (pe_op op_cat (pv 5) (pe_lst (pa_cons (pv 8) pa_nil))) (pa_cons (pe_lc (own := [("_law_pair", 15)]) (g := gName 15) rfl scLMap.nd (pi_list (pv 4)) (blkOk_by (N := nLMap) (sc := defScope sLMap) (by decide +kernel))
        (fun _ _ _ _ _ => pg_name (i := 15) scLMap.nd rfl (Or.inl rfl)) (fun _ _ _ _ _ => pts_one (pt_cmpR (r := rNeD K) (op_neD hr.units) (pv 15) (pv 8) (nomark _))) (fun _ _ _ _ _ => pv 15)) pa_nil)) (by rfl)))))
    (pss_cons (ps_par (i := 9) (j := 10) rfl scLMap.nd rfl rfl (by decide) rfl rfl (pa_cons (pe_listRg rfl (by rfl) T.list (prg_1 (by rfl) T.range (pv 3))) (pa_cons (pe_lst pa_nil) pa_nil)) (by rfl))
    (pss_cons (ps_for PassesOwn.never rfl (pi_range1 (by rfl) T.range (pa_cons (pv 3) pa_nil)) (pg_name (i := 7) scLMap.nd rfl (Or.inl rfl))
      (pss_cons (ps_set (i := 8) scLMap.nd rfl (Or.inr rfl) (pe_d (k := 2) DP hr (pa_cons (pv 0) (pa_cons (pv 9) pa_nil))))
      (pss_one (ps_par (i := 10) (j := 9) rfl scLMap.nd rfl rfl (by decide) rfl rfl (pa_cons (pe_op op_cat (pv 10) (pe_lst (pa_cons (pv 8) pa_nil))) (pa_cons (pe_lc (own := [("_law_k", 16)]) (g := gName 16) rfl scLMap.nd (pi_list (pv 9)) (blkOk_by (N := nLMap) (sc := defScope sLMap) (by decide +kernel))
        (fun _ _ _ _ _ => pg_name (i := 16) scLMap.nd rfl (Or.inl rfl)) (fun _ _ _ _ _ => pts_one (pt_cmpR neK (pv 16) (pv 8) (nomark _))) (fun _ _ _ _ _ => pv 16)) pa_nil)) (by rfl)))))
    (pss_cons (ps_par (i := 11) (j := 12) rfl scLMap.nd rfl rfl (by decide) rfl rfl (pa_cons (pe_lst (pa_cons (pe_ix ix_list (pv 10) (pn 0) (fun _ _ => rfl)) pa_nil)) (pa_cons (pn 1) pa_nil)) (by rfl))
    (pss_cons (ps_for PassesOwn.never rfl (pi_range1 (by rfl) T.range (pa_cons (pv 1) pa_nil)) (pg_name (i := 6) scLMap.nd rfl (Or.inr rfl))
      (pss_cons (ps_set (i := 13) scLMap.nd rfl (Or.inl rfl) (pe_ix ix_list (pv 10) (pn 0) (fun _ _ => rfl)))
      (pss_one (ps_for PassesOwn.never rfl (pi_range1 (by rfl) T.range (pa_cons (pv 2) pa_nil)) (pg_name (i := 14) scLMap.nd rfl (Or.inl rfl))
        (pss_cons (ps_if (pt_cmpR (op_inD (r65 hr)) (pe_tup (pa_cons (pv 6) (pa_cons (pv 14) pa_nil))) (pv 5) (by rfl))
          (pss_one (ps_par (i := 13) (j := 12) rfl scLMap.nd rfl rfl (by decide) rfl rfl (pa_cons (pe_ix ix_list (pv 10) (pv 12) (fun _ _ => rfl)) (pa_cons (pe_op addK (pv 12) (pn 1)) pa_nil)) (by rfl))) pss_nil)
        (pss_one (ps_expr (pe_bm PySem.F.plainAttrs_list PySem.F.slot_list_append PySem.F.type_list_append mt_append (pv 11) (pa_cons (pv 13) pa_nil)))))))))
    (pss_one (ps_ret (pe_tup (pa_cons (pv 1) (pa_cons (pe_callTy call_tuple_of (by rfl) T.tuple bt_tuple (pa_cons (pv 11) pa_nil)) pa_nil))))))))))), ?_⟩
  have ha9 : arms ≤ 4 := by rcases I.a with e | e <;> omega
  have hl4 := I.l4
  have h17 := isl_small I
  have hal : len ≤ arms * len := Nat.le_mul_of_pos_left len (by rcases I.a with e | e <;> omega)
  have nr : ∀ {p : Addr}, H p = none → p ≠ r := fun {p} hp z => by
    obtain ⟨ys, h⟩ := R.lst
    rw [z, h] at hp
    cases hp
  refine ⟨Nat.zero_le _, fun pl hpl => ⟨Nat.zero_le _, fun pc hpc => ⟨_, _, rfl, ?_⟩⟩⟩
  have s1 := same_new (o := .lst []) hpl
  have s12 := same_new (o := .lst []) hpc
  have s2 := s1.trans s12
  have hpl2 := s12 _ _ (show upd H pl (.lst []) pl = some (.lst []) from upd_same)
  have hpc0 : H pc = none := s1.free hpc
  refine ⟨_, rfl, _, rfl, by omega, by omega, for_range (lo := 0) (n := (arms : Int).toNat) (fun i σ H1 => ∃ (pl : Addr) (v6 : Option V) (xs : List V), σ = [some (.ref r), some (.int arms), some (.int len), some (.int lands), some (.ref pl), some (.ref pc), v6, none, none, none, none, none, none, none, none, none, none] ∧ Same H H1 ∧ H pl = none ∧ H1 pc = some (.lst []) ∧
    H1 pl = some (.lst xs) ∧ Prs K H1 xs (prs len i)) ⟨pl, none, [], rfl, s2, hpl, upd_same, hpl2, .nil⟩ ?_ ?_⟩
  · rintro i σ H1 hi ⟨pl, v6, xs, rfl, s3, hpl, e1, e2, r2⟩
    rw [Int.zero_add]
    have hil : i < arms := by omega
    refine ⟨_, rfl, _, rfl, _, rfl, by omega, by omega, fun D hD => lc_range (lo := 0) (n := (len : Int).toNat) (fun j H2 => Same H1 H2 ∧ ∃ ys, H2 D = some (.lst ys) ∧ Prs K H2 ys ((List.range j).map fun s => (i, s))) ⟨same_new hD, [], upd_same, .nil⟩ ?_ ?_⟩
    · rintro j H2 hj ⟨s4, ys, e4, r4⟩
      rw [Int.zero_add]
      refine ⟨rfl, yesT ⟨_, rfl, _, rfl, (by show 2 ≤ sizeLine; exact line_le (by decide)), fun q hq => ?_⟩⟩
      have t5 := same_new (o := .tup [V.int (i : Nat), V.int (j : Nat)]) hq
      have e5 := t5 _ _ e4
      have r5 : Prs K (upd H2 q (.tup [V.int (i : Nat), V.int (j : Nat)])) ys ((List.range j).map fun s => (i, s)) := r4.gw (PA := 0) (PM := 0) (Gw.of t5)
      refine ⟨ys, e5, ?_, same_at hD (s4.trans t5), _, upd_same, ?_⟩
      · rw [r4.length, List.length_map, List.length_range]
        exact line_lt (by omega)
      · rw [List.range_succ, List.map_append]
        exact Prs.upd (paired_app r5 (.cons ⟨q, rfl, .inl (.inl upd_same)⟩ .nil)) e5
    · rintro H2 ⟨s4, ys, e4, r4⟩
      have en : (len : Int).toNat = len := by omega
      rw [en] at r4
      have hxl := r2.length
      rw [prs_len] at hxl
      have hyl := r4.length
      rw [List.length_map, List.length_range] at hyl
      have h16 : i * len ≤ arms * len := Nat.mul_le_mul_right len (by omega)
      refine ⟨pl, D, xs, ys, rfl, rfl, s4 _ _ e2, e4, line_le (by omega), fun q hq => ?_⟩
      have t5 := same_new (o := .lst (xs ++ ys)) hq
      refine ⟨q, _, xs ++ ys, rfl, (s3.trans s4).trans t5, (s3.trans s4).free hq, t5 _ _ (s4 _ _ e1), upd_same, ?_⟩
      rw [prs_succ]
      exact paired_app (r2.gw (PA := 0) (PM := 0) (Gw.of (s4.trans t5))) (r4.gw (PA := 0) (PM := 0) (Gw.of t5))
  rintro σ H1 ⟨pl, v6, xs, rfl, s3, hpl, e1, e2, r2⟩
  have en : (arms : Int).toNat = arms := by omega
  rw [en] at r2
  -- the cuts
  refine ⟨_, rfl, lands, 1, rfl, rfl, (by omega : 1 ≤ lands), _, rfl, by omega, by omega, for_range (lo := 0) (n := ((lands - 1 : Nat) : Int).toNat) (fun i σ H1 => ∃ (pl pc : Addr) (v7 v8 : Option V) (ls cs : List V) (lt ct : List (Nat × Nat)), σ = [some (.ref r), some (.int arms), some (.int len), some (.int lands), some (.ref pl), some (.ref pc), v6, v7, v8, none, none, none, none, none, none, none, none] ∧ Kp r H H1 ∧ Rw K H1 r sc ns ∧ H pl = none ∧ H pc = none ∧
    H1 pl = some (.lst ls) ∧ Prs K H1 ls lt ∧ H1 pc = some (.lst cs) ∧ Prs K H1 cs ct ∧ Bag (prs len arms) lt ct ∧ ct.length = i) ⟨pl, pc, none, none, xs, [], _, [], rfl, Kp.of s3, R.same s3, hpl, hpc0, e2, r2, e1, .nil, Bag.start (prs_nd arms), rfl⟩ ?_ ?_⟩
  · rintro i σ H1 hi ⟨pl, pc, v7, v8, ls, cs, lt, ct, rfl, k1, R1, hpl, hpc, e1, r1, e2, r2, B, hct⟩
    rw [Int.zero_add]
    have hB := B.len
    rw [prs_len] at hB
    have hll := r1.length
    have hcl := r2.length
    refine ⟨_, rfl, _, rfl, r, sc, pl, ns, ls, rfl, R1, .inl (.inl e1), nr hpl, by omega, by omega, fun j x H2 hx d2 => ?_⟩
    have k2 := d2.kp R1
    have R2 := d2.rw R1
    obtain ⟨t, ht, hxt⟩ := paired_got r1 hx
    have htm : t ∈ lt := List.mem_of_getElem? ht
    have hxt2 := hxt.kp k2 R1
    have r1' := r1.kp k2 R1
    have r2' := r2.kp k2 R1
    have e1' := k2.keep _ _ (nr hpl) e1
    have e2' := k2.keep _ _ (nr hpc) e2
    refine ⟨_, rfl, _, rfl, (by show 1 ≤ sizeLine; exact line_le (by decide)), fun p1 hp1 => ?_⟩
    have t1 := same_new (o := .lst [x]) hp1
    refine ⟨pc, p1, cs, [x], rfl, rfl, t1 _ _ e2', upd_same, line_le (by show cs.length + 1 ≤ 1000000; omega), fun p2 hp2 => ?_⟩
    have t2 := same_new (o := .lst (cs ++ [x])) hp2
    have t12 := t1.trans t2
    have e3 := t12 _ _ e1'
    refine ⟨_, rfl, pl, rfl, ⟨_, .inl (.inl e3)⟩, fun D hD => lc_list (K := K) (a := pl) (xs := ls) (fun k H4 => Same (upd (upd H2 p1 (.lst [x])) p2 (.lst (cs ++ [x]))) H4 ∧ ∃ ys, H4 D = some (.lst ys) ∧ Prs K H4 ys ((lt.take k).filter fun y => !decide (y = t))) ⟨same_new hD, [], upd_same, .nil⟩ (fun j H4 _ h => .inl (.inl (h.1 _ _ e3))) ?_ ?_⟩
    · rintro k y H4 hy ⟨s4, ys, e4, r4⟩
      obtain ⟨u, hu, hyu⟩ := paired_got r1 hy
      have kk := (k2.trans (Kp.of t12)).trans (Kp.of s4)
      have hyu4 := hyu.kp kk R1
      have hxt4 := hxt.kp kk R1
      refine ⟨rfl, _, rfl, _, rfl, dP u, dP t, hyu4.dp, hxt4.dp, sh_dP u, sh_dP t, _, rfl, ?_⟩
      rw [eqv_dP, take_succ hu, List.filter_append, filter_one]
      by_cases hut : u = t
      · refine ifF (by rw [decide_eq_true hut]; rfl) ⟨s4, ys, e4, ?_⟩
        rw [if_neg (by simp [hut]), List.append_nil]
        exact r4
      · refine ifT (by rw [decide_eq_false hut]; rfl) ?_
        refine ⟨_, rfl, ys, e4, ?_, same_at hD s4, _, upd_same, ?_⟩
        · rw [r4.length]
          refine line_lt (Nat.le_trans (List.length_filter_le _ _) ?_)
          have h7 : (lt.take k).length ≤ lt.length := by rw [List.length_take]; exact Nat.min_le_right _ _
          omega
        · rw [if_pos (by simp [hut])]
          exact Prs.upd (paired_app r4 (.cons hyu4 .nil)) e4
    · rintro H4 ⟨s4, ys, e4, r4⟩
      rw [hll, List.take_length] at r4
      have kk := (Kp.of t12).trans (Kp.of (r := r) s4)
      have k5 := (k1.trans k2).trans kk
      refine ⟨_, _, rfl, ?_⟩
      refine ⟨D, p2, _, _, ys, cs ++ [x], _, ct ++ [t], rfl, k5, (R2.same t12).same s4, ?_, ?_, e4, r4, s4 _ _ upd_same, ?_, B.draw htm, by rw [List.length_append, hct]; rfl⟩
      · exact (k1.trans k2).free _ (t12.free hD)
      · exact (k1.trans k2).free _ (t1.free hp2)
      · exact paired_app (r2'.kp kk R2) (.cons (hxt2.kp kk R2) .nil)
  rintro σ H1 ⟨pl, pc, v7, v8, ls, cs, lt, ct, rfl, k1, R1, hpl, hpc, e1, r1, e2, r2, B, hct⟩
  have hct1 : ct.length = lands - 1 := by omega
  -- the names
  refine ⟨_, rfl, _, rfl, RgOk.of_le (by omega) (by omega) (by omega) (by omega), fun pn hpn => ⟨Nat.zero_le _, fun po hpo => ⟨_, _, rfl, ?_⟩⟩⟩
  rw [rgV_vN] at hpo
  have t1 := same_new (o := .lst (vN (List.range lands))) hpn
  have t12 := same_new (o := .lst []) hpo
  have t2 := t1.trans t12
  have hpn0 : H pn = none := k1.free _ hpn
  have hpo0 : H po = none := k1.free _ (t1.free hpo)
  refine ⟨_, rfl, _, rfl, by omega, by omega, for_range (lo := 0) (n := (lands : Int).toNat) (fun i σ H1 => ∃ (pn po : Addr) (v7 v8 : Option V) (nl ol : List Nat), σ = [some (.ref r), some (.int arms), some (.int len), some (.int lands), some (.ref pl), some (.ref pc), v6, v7, v8, some (.ref pn), some (.ref po), none, none, none, none, none, none] ∧ Kp r H H1 ∧ Rw K H1 r sc ns ∧ H pn = none ∧ H po = none ∧
    H1 pn = some (.lst (vN nl)) ∧ H1 po = some (.lst (vN ol)) ∧ H1 pc = some (.lst cs) ∧ Prs K H1 cs ct ∧ Bag (List.range lands) nl ol ∧ ol.length = i) ⟨pn, po, v7, v8, List.range lands, [], rfl, ?_, ?_, hpn0, hpo0, ?_, ?_, ?_, ?_, Bag.start List.nodup_range, rfl⟩ ?_ ?_⟩
  · rw [rgV_vN]; exact k1.trans (Kp.of t2)
  · rw [rgV_vN]; exact R1.same t2
  · rw [rgV_vN]; exact t12 _ _ upd_same
  · exact upd_same
  · rw [rgV_vN]; exact t2 _ _ e2
  · rw [rgV_vN]; exact r2.gw (PA := 0) (PM := 0) (Gw.of t2)
  · rintro i σ H1 hi ⟨pn, po, v7, v8, nl, ol, rfl, k1, R1, hpn, hpo, e1, e2, e3, r3, B2, hol⟩
    rw [Int.zero_add]
    have hB := B2.len
    rw [List.length_range] at hB
    refine ⟨_, rfl, _, rfl, r, sc, pn, ns, vN nl, rfl, R1, .inl (.inl e1), nr hpn, by rw [vN_len]; omega, by rw [vN_len]; omega, fun j x H2 hx d2 => ?_⟩
    have k2 := d2.kp R1
    have R2 := d2.rw R1
    obtain ⟨t, ht, rfl⟩ := vN_of hx
    have htm : t ∈ nl := List.mem_of_getElem? ht
    have e1' := k2.keep _ _ (nr hpn) e1
    have e2' := k2.keep _ _ (nr hpo) e2
    have e3' := k2.keep _ _ (nr hpc) e3
    have r3' := r3.kp k2 R1
    refine ⟨_, rfl, _, rfl, (by show 1 ≤ sizeLine; exact line_le (by decide)), fun p1 hp1 => ?_⟩
    have t1 := same_new (o := .lst [V.int (t : Nat)]) hp1
    refine ⟨po, p1, vN ol, [V.int (t : Nat)], rfl, rfl, t1 _ _ e2', upd_same, line_le (by rw [vN_len]; show ol.length + 1 ≤ 1000000; omega), fun p2 hp2 => ?_⟩
    have t2 := same_new (o := .lst (vN ol ++ [V.int (t : Nat)])) hp2
    have t12 := t1.trans t2
    have e3 := t12 _ _ e1'
    refine ⟨_, rfl, pn, rfl, ⟨_, .inl (.inl e3)⟩, fun D hD => lc_list (K := K) (a := pn) (xs := vN nl) (fun k H4 => Same (upd (upd H2 p1 (.lst [V.int (t : Nat)])) p2 (.lst (vN ol ++ [V.int (t : Nat)]))) H4 ∧ H4 D = some (.lst (vN ((nl.take k).filter fun y => !decide (y = t))))) ⟨same_new hD, upd_same⟩ (fun j H4 _ h => .inl (.inl (h.1 _ _ e3))) ?_ ?_⟩
    · rintro k y H4 hy ⟨s4, e4⟩
      obtain ⟨u, hu, rfl⟩ := vN_of hy
      refine ⟨rfl, _, rfl, _, rfl, u, t, rfl, rfl, _, rfl, ?_⟩
      rw [take_succ hu, List.filter_append, filter_one]
      by_cases hut : u = t
      · refine ifF (by rw [decide_eq_true hut]; rfl) ⟨s4, ?_⟩
        rw [if_neg (by simp [hut]), List.append_nil]
        exact e4
      · refine ifT (by rw [decide_eq_false hut]; rfl) ?_
        refine ⟨_, rfl, _, e4, ?_, same_at hD s4, ?_⟩
        · rw [vN_len]
          refine line_lt (Nat.le_trans (List.length_filter_le _ _) ?_)
          have h7 : (nl.take k).length ≤ nl.length := by rw [List.length_take]; exact Nat.min_le_right _ _
          omega
        · rw [upd_same, if_pos (by simp [hut]), ← vN_app]
          rfl
    · rintro H4 ⟨s4, e4⟩
      rw [vN_len, List.take_length] at e4
      have kk := (Kp.of t12).trans (Kp.of (r := r) s4)
      have k5 := (k1.trans k2).trans kk
      refine ⟨_, _, rfl, ?_⟩
      refine ⟨D, p2, _, _, _, ol ++ [t], rfl, k5, (R2.same t12).same s4, ?_, ?_, e4, ?_, s4 _ _ (t12 _ _ e3'), r3'.kp kk R2, B2.draw htm, by rw [List.length_append, hol]; rfl⟩
      · exact (k1.trans k2).free _ (t12.free hD)
      · exact (k1.trans k2).free _ (t1.free hp2)
      · exact s4 _ _ (by rw [upd_same, vN_snoc])
  rintro σ H1 ⟨pn, po, v7, v8, nl, ol, rfl, k1, R1, hpn, hpo, e1, e2, e3, r3, B2, hol⟩
  have hol1 : ol.length = lands := by omega
  -- the cells
  obtain ⟨o0, ho0⟩ : ∃ o, ol[0]? = some o := ⟨ol[0], List.getElem?_eq_getElem (by omega)⟩
  refine ⟨_, rfl, _, _, _, _, rfl, rfl, .inl (.inl e2), atI_nat (j := 0) (vN_get ho0), (by show 1 ≤ sizeLine; exact line_le (by decide)), fun pcl hpcl => ⟨_, _, rfl, ?_⟩⟩
  have u1 := same_new (o := .lst [V.int (o0 : Nat)]) hpcl
  have npo : po ≠ pcl := ne_of_none e2 hpcl
  have npc : pc ≠ pcl := ne_of_none e3 hpcl
  have hpcl0 : H pcl = none := k1.free _ hpcl
  have ctin : ∀ t ∈ ct, t.1 < arms ∧ t.2 < len := fun t ht => mem_prs.mp (B.osub t ht)
  have cnd : (ct.map (pid len)).Nodup := by
    rw [List.nodup_iff_pairwise_ne, List.pairwise_map]
    refine List.Pairwise.imp_of_mem ?_ (List.nodup_iff_pairwise_ne.mp B.ond)
    intro a b ha hb hab e
    exact hab (pid_inj (ctin a ha).2 (ctin b hb).2 e)
  have clt : ∀ m ∈ ct.map (pid len), m < arms * len := fun m hm => by
    obtain ⟨t, ht, rfl⟩ := List.mem_map.mp hm
    obtain ⟨h1, h2⟩ := ctin t ht
    show t.1 * len + t.2 < arms * len
    have h3 : (t.1 + 1) * len ≤ arms * len := Nat.mul_le_mul_right len h1
    rw [Nat.succ_mul] at h3
    omega
  have cll : (ct.map (pid len)).length = lands - 1 := by rw [List.length_map]; exact hct1
  have cmem : ∀ i j, j < len → ((i, j) ∈ ct ↔ i * len + j ∈ ct.map (pid len)) := fun i j hj => by
    constructor
    · intro h
      exact List.mem_map.mpr ⟨(i, j), h, rfl⟩
    · intro h
      obtain ⟨t, ht, e⟩ := List.mem_map.mp h
      have := pid_inj (ctin t ht).2 (show (i, j).2 < len from hj) e
      rw [← this]
      exact ht
  have hcsl := r3.length
  refine ⟨_, rfl, _, rfl, by omega, by omega, for_range (lo := 0) (n := (arms : Int).toNat) (fun i σ H1 => ∃ (v6 v13 v14 : Option V) (used : Nat) (cells : List Nat), σ = [some (.ref r), some (.int arms), some (.int len), some (.int lands), some (.ref pl), some (.ref pc), v6, v7, v8, some (.ref pn), some (.ref po), some (.ref pcl), some (.int used), v13, v14, none, none] ∧ Kp r H H1 ∧ Rw K H1 r sc ns ∧
    H1 po = some (.lst (vN ol)) ∧ H1 pc = some (.lst cs) ∧ Prs K H1 cs ct ∧ H1 pcl = some (.lst (vN cells)) ∧ MInv len ol (ct.map (pid len)) cells (i * len) used) ⟨v6, none, none, 1, [o0], rfl, k1.trans (Kp.of u1), R1.same u1, u1 _ _ e2, u1 _ _ e3, r3.gw (PA := 0) (PM := 0) (Gw.of u1), upd_same, ?_⟩ ?_ ?_⟩
  · rw [Nat.zero_mul]
    exact MInv.start ho0
  · rintro i σ H1 hi ⟨v6, v13, v14, used, cells, rfl, k1, R1, e2, e3, r3, e4, M⟩
    rw [Int.zero_add]
    have hil : i < arms := by omega
    refine ⟨_, rfl, _, _, _, _, rfl, rfl, .inl (.inl e2), atI_nat (j := 0) (vN_get M.Z), ?_⟩
    refine ⟨_, rfl, _, rfl, by omega, by omega, for_range (lo := 0) (n := (len : Int).toNat) (fun j σ H1 => ∃ (v14 : Option V) (used land : Nat) (cells : List Nat), σ = [some (.ref r), some (.int arms), some (.int len), some (.int lands), some (.ref pl), some (.ref pc), some (.int (i : Nat)), v7, v8, some (.ref pn), some (.ref po), some (.ref pcl), some (.int used), some (.int land), v14, none, none] ∧ Kp r H H1 ∧ Rw K H1 r sc ns ∧
      H1 po = some (.lst (vN ol)) ∧ H1 pc = some (.lst cs) ∧ Prs K H1 cs ct ∧ H1 pcl = some (.lst (vN cells)) ∧ MInv len ol (ct.map (pid len)) cells (i * len + j) used ∧ (j < len → land = at0 cells (inn len (i * len + j + 1)))) ⟨v14, used, at0 cells 0, cells, rfl, k1, R1, e2, e3, r3, e4, M, ?_⟩ ?_ ?_⟩
    · intro _
      unfold inn
      rw [Nat.add_sub_cancel, Nat.add_zero, Nat.mul_mod_left, if_pos rfl]
    · rintro j σ H2 hj ⟨v14, used, land, cells, rfl, k2, R2, e2, e3, r3, e4, M, hland⟩
      rw [Int.zero_add]
      have hjl : j < len := by omega
      have hijl : i * len + j < arms * len := by
        have h3 : (i + 1) * len ≤ arms * len := Nat.mul_le_mul_right len hil
        rw [Nat.succ_mul] at h3
        omega
      refine ⟨_, rfl, _, rfl, (by show 2 ≤ sizeLine; exact line_le (by decide)), fun pt hpt => ?_⟩
      have t3 := same_new (o := .tup [.int (i : Nat), .int (j : Nat)]) hpt
      have e2' := t3 _ _ e2
      have e3' := t3 _ _ e3
      have e4' := t3 _ _ e4
      have r3' : Prs K (upd H2 pt (.tup [.int (i : Nat), .int (j : Nat)])) cs ct := r3.gw (PA := 0) (PM := 0) (Gw.of t3)
      have k3 := k2.trans (Kp.of t3)
      have R3 := R2.same t3
      refine ⟨_, rfl, dP (i, j), ct.map dP, dp_P (t := (i, j)) (.inl (.inl upd_same)), .lst (.inl (.inl e3')) r3'.dp, sh_dP _, sh_dPs _, _, rfl, ?_⟩
      rw [any_dP]
      have hcl : cells.length = i * len + j + 1 := M.sz
      by_cases hin : (i, j) ∈ ct
      · refine ifT (decide_eq_true hin) ?_
        have hcn := (cmem i j hjl).mp hin
        have hub : used < ol.length := by
          have h1 := cut_upto cnd clt hcn
          have h2 := M.us
          omega
        have hou : ol[used]? = some ol[used] := List.getElem?_eq_getElem hub
        refine ⟨_, rfl, _, rfl, _, _, _, _, rfl, rfl, .inl (.inl e2'), atI_nat (j := used) (vN_get hou), _, rfl, _, 1, rfl, rfl, _, _, rfl, ?_⟩
        refine ⟨_, rfl, .inl ⟨rfl, _, .inl (.inl e4')⟩, _, rfl, _, _, _, rfl, rfl, e4', by rw [vN_len]; exact line_lt (by omega), ?_⟩
        refine ⟨_, used + 1, ol[used], cells ++ [ol[used]], rfl, kp_at hpcl0 k3, R3.upd R (nr hpcl0) hpcl0, by rw [upd_ne npo]; exact e2', by rw [upd_ne npc]; exact e3', r3'.upd e4', by rw [upd_same, vN_snoc], M.cut B2.ond hou hcn, ?_⟩
        intro hlast
        have e5 := at0_new (cells := cells) (l := ol[used])
        rw [hcl] at e5
        unfold inn
        have e6 : i * len + (j + 1) + 1 - 1 = i * len + (j + 1) := by omega
        rw [e6, pid_mod hlast, if_neg (by omega)]
        exact e5.symm
      · refine ifF (decide_eq_false hin) ?_
        have hcn : i * len + j ∉ ct.map (pid len) := fun z => hin ((cmem i j hjl).mpr z)
        refine ⟨_, rfl, .inl ⟨rfl, _, .inl (.inl e4')⟩, _, rfl, _, _, _, rfl, rfl, e4', by rw [vN_len]; exact line_lt (by omega), ?_⟩
        refine ⟨_, used, land, cells ++ [land], rfl, kp_at hpcl0 k3, R3.upd R (nr hpcl0) hpcl0, by rw [upd_ne npo]; exact e2', by rw [upd_ne npc]; exact e3', r3'.upd e4', by rw [upd_same, vN_snoc], M.keep B2.ond (hland hjl) hcn, ?_⟩
        intro hlast
        have e5 := at0_new (cells := cells) (l := land)
        rw [hcl] at e5
        unfold inn
        have e6 : i * len + (j + 1) + 1 - 1 = i * len + (j + 1) := by omega
        rw [e6, pid_mod hlast, if_neg (by omega)]
        exact e5.symm
    · rintro σ H2 ⟨v14, used, land, cells, rfl, k2, R2, e2, e3, r3, e4, M, hland⟩
      have en : (len : Int).toNat = len := by omega
      rw [en, ← Nat.succ_mul] at M
      exact ⟨_, _, _, used, cells, rfl, k2, R2, e2, e3, r3, e4, M⟩
  rintro σ H1 ⟨v6, v13, v14, used, cells, rfl, k1, R1, e2, e3, r3, e4, M⟩
  rw [en] at M
  have G := MInv.good I hl2 hlm B2.ond hol1 (fun x hx => List.mem_range.mp (B2.osub x hx)) cnd clt cll M
  refine ⟨_, rfl, _, rfl, pcl, vN cells, rfl, .inl ⟨.inl (.inl e4), fun q hq => ?_⟩⟩
  have u2 := same_new (o := .tup (vN cells)) hq
  refine ⟨(by show 2 ≤ sizeLine; exact line_le (by decide)), fun p hp => ?_⟩
  have u3 := same_new (o := .tup [.int (arms : Nat), .ref q]) hp
  have u := u2.trans u3
  exact kQ _ p q cells (k1.trans (Kp.of u)) (R1.same u) ⟨.inl (.inl upd_same), .inl (.inl (u3 _ _ upd_same))⟩ G
end
end SK
end

section
/-! The caught error; the lambda. -/
namespace SK
open PySem PySem.Spec PyProof.Rows L2 GxR SKG SKR
/-- isinstance(e, c), e the caught exception with its fields -/
def rIsF (K : PySem.W.Frag) (a : Addr) (cls : Value) (d : Option Addr) : List V → Hp → VK → Prop := fun xs H Q => ∃ (D C dd : Addr) (fs : List (Str × V)) (b : Bool), xs = [.ref a, .ref C] ∧ cls = .ref D ∧ d = some dd ∧ ExcC K D ∧ H dd = some (.xd fs) ∧ PySem.W.kitOne K (.ref D) (.ref C) = some b ∧ Q (.bl b) H
theorem call_isF {X : Cx} {a : Addr} {cls : Value} {d : Option Addr} {oe : Obj} {pn : List (Addr × Obj)} (hz : Zc cls d oe) (hf : ∃ vs, oe.data = .fields vs) : CallR (X.suite a ((a, oe) :: pn)) (.builtin "isinstance") (rIsF X.K a cls d) := by
  intro pins s σ H xs us Q I r h
  obtain ⟨D, C, dd, fs, b, rfl, rfl, rfl, E, ea, ek, q⟩ := h
  obtain ⟨u1, u2, rfl, r1, r2⟩ := vals2 r
  cases (show u1 = Value.ref a from r1)
  cases (show u2 = Value.ref C from r2)
  obtain ⟨hget, _⟩ := I.pin (a, oe) (List.mem_append.mpr (.inl List.mem_cons_self))
  obtain ⟨vs, hv⟩ := hf
  obtain ⟨mA, hns, _⟩ := (show ObjOk X.prog X.w H s.heap dd (.xd fs) from I.hok dd _ ea)
  obtain ⟨od, ho, _⟩ := lookIn_ns hns
  have J : PySem.W.InstAt s.heap a oe D (some od) := ⟨hget, hz.1, by unfold PySem.W.notCls; rw [hv] <;> rfl, by rw [hz.2]; exact ho⟩
  have hcl : (PySem.W.clsIn X.K D).isSome = true := by
    obtain ⟨cd, hc, _⟩ := PySem.W.any_some E.hd
    rw [hc]; rfl
  exact PySem.W.kia_one (PySem.W.kitx_exc hcl E.hg E.hk E.hs E.ha E.hn E.ht E.hm) I.kIn J ek (fun z => nomatch z) fun tk => ⟨.bl b, H, I.kept (t' := tk) fun _ _ z => z, rfl, q⟩
/-- e.n, whatever the class -/
def tXg (K : PySem.W.Frag) (a : Addr) (cls : Value) (d : Option Addr) (n : Str) (te : TE) : TE := fun σ H Q => te σ H fun x H1 => x = .ref a ∧ ∃ (C dd : Addr) (fs : List (Str × V)) (v : V), cls = .ref C ∧ XfC K C ∧ PySem.W.findIn K (.ref C) n = some none ∧ d = some dd ∧ H1 dd = some (.xd fs) ∧ fs.lookup n = some v ∧ Q v H1
theorem pe_xg {X : Cx} {a : Addr} {oe : Obj} {cls : Value} {d : Option Addr} {pn : List (Addr × Obj)} {e : Expr} {te : TE} {pos : Pos} {n : Str} 
    (hz : Zc cls d oe) (hf : ∃ vs, oe.data = .fields vs) (he : PE (X.suite a ((a, oe) :: pn)) e te) (hb : attributeBase e n X.env (eval e X.env) = eval e X.env := by rfl) :
    PE (X.suite a ((a, oe) :: pn)) (.Attribute e n pos) (tXg X.K a cls d n te) := by
  refine ⟨fun pins s σ H Q I h => ?_⟩
  refine attr_of hb (thn (he.run pins s σ H _ I h) fun u s1 hh => ?_)
  obtain ⟨x, H1, I1, rx, ex, C, dd, fs, v, ec, T, hno, ed, ea, l, q⟩ := hh
  subst ex
  obtain rfl : u = Value.ref a := rx
  subst ec
  subst ed
  obtain ⟨ha, _⟩ := I1.pin (a, oe) (List.mem_append_left _ List.mem_cons_self)
  obtain ⟨vs, hd⟩ := hf
  have hx : ObjOk X.prog X.w H1 s1.heap dd (.xd fs) := I1.hok dd _ ea
  obtain ⟨mA, hns, hr⟩ := hx
  obtain ⟨od, ho, hl⟩ := lookIn_ns hns
  obtain ⟨u, hu, ru⟩ := RelO.some_of (v := v) (o := mA n) (by rw [← l]; exact hr n)
  have J : PySem.W.InstAt s1.heap a oe C (some od) := ⟨ha, hz.1, by unfold PySem.W.notCls; rw [hd] <;> rfl, by rw [hz.2]; exact ho⟩
  exact HandSPX.exc_get I1.kIn J T.ga T.gg T.exC (PySem.W.findObj_own T.hdC hno rfl (by rw [hl, hu])) (handed_of ru) ⟨v, H1, I1.tok _, ru, q⟩

/-! ### a lambda made where its maker's table is empty -/
section
variable {X : Cx} {pins : List (Addr × Obj)} {σ : L2.St} {H : Hp} {s : Shared}
theorem lam_fresh {c P : Addr} {params : Arguments} {body : Expr} {scope : Scope} {pos : Pos} {E : Value → Shared → Prop} {Q : Value → Shared → Prop} (I : Inv X pins σ H s) (TB : LamX.TabB X.base X.mg c P) (hcode : X.env.code = .ref c) (hP : H P = some (.tbl #[]))
    (hdef : defaultsOf params X.env = ([], [])) (hfree : ∀ y ∈ scope.names, y.2 = .free → ∃ c, X.env.cells.lookup y.1 = some c)
    (h : ∀ (f c' : Addr) (pm ctv : Value) (H1 : Hp) (s' : Shared), Inv X pins σ H1 s' → (∀ b o, b ≠ P → H b = some o → H1 b = some o) →
      s'.heap.get? f = some (PySem.W.kla_obj "<lambda>" (X.env.qual ++ "<lambda>") params body scope (cloFrom X.env.cells scope.names []) pm c' ctv) → H1 f = none → f ∉ frs X.stack → H1 c' = some (LamX.CodeO c' (X.env.qual ++ "<lambda>")) → Q (.ref f) s') :
    wpAny (model X.prog X.w) X.A (eval (.Lambda params body scope pos) X.env) Q E s := by
  refine PySem.W.kla_eval hdef ?_
  have bP : s.heap.BuiltinsAt X.mg P := TB.bm.keeps I.bk
  have hP' : s.heap.get? P = some { cls := .none, data := .fields #[] } := I.hok P _ hP
  refine PySem.W.kla_makeFunction (mg := X.mg) (c := c) (P := P) (ps := #[]) (closure_ok hfree) I.ok.glob (I.mod.glob.keeps I.bk) hcode (TB.code.keeps I.bk) hP' True.intro (by simp [codeAmong]) TB.gP bP fun c' ctv h' tk hx hge hlt hrec htb => ?_
  obtain ⟨c2, oc, vs, t, e2, hoc, hd, hv⟩ := hrec
  cases e2
  have hsz : s.heap.objs.size ≤ h'.objs.size := Nat.le_trans hge (Nat.le_of_lt hlt)
  have nC : H c' = none := I.hok.fresh hge
  have I1 := LamX.inv_table (t' := tk) (more := #[rawInt pos.line, rawInt pos.col, .ref c']) (h' := h'.push (PySem.W.kla_obj "<lambda>" (X.env.qual ++ "<lambda>") params body scope (cloFrom X.env.cells scope.names []) ((X.mg "__name__").getD .none) c' ctv)) I hP
    (fun b o hb e => Heap.get?_push_of_some _ (hx b o hb e)) (Heap.get?_push_of_some _ htb) hge ⟨oc, vs, t, Heap.get?_push_of_some _ hoc, hd, hv⟩
  refine h h'.objs.size c' ((X.mg "__name__").getD .none) ctv _ _ I1 (fun b o hb e => by rw [upd_ne (ne_of_none e nC), upd_ne hb]; exact e) (Heap.get?_push_size _ rfl) ?_ (fun z => ?_) upd_same
  · rw [upd_ne (Nat.ne_of_gt hlt), upd_ne (Nat.ne_of_gt (Nat.lt_of_lt_of_le (Heap.lt_size hP') hsz))]
    exact I.hok.fresh hsz
  · rcases List.mem_cons.mp (I.stkSub _ z) with e | e
    · have h1 := I.lt
      rw [← e] at h1
      exact Nat.lt_irrefl _ (Nat.lt_of_lt_of_le h1 hsz)
    · exact I.nofs hsz e
end
/-- the reading of told(lambda) -/
def tLamF (P : Addr) (TT : (XK → Hp → VK → Prop) → Hp → VK → Prop) (t : XK → TE) : TE := fun σ H Q => H P = some (.tbl #[]) ∧ ∀ H1, (∀ b o, b ≠ P → H b = some o → H1 b = some o) → TT (fun E H' Q' => t E σ H' Q') H1 Q
section
variable {X : Cx}
theorem pe_lamF {TT : (XK → Hp → VK → Prop) → Hp → VK → Prop} {x a : Str} {g c P : Addr} {k : Nat} {pg : Arguments} {bg : List Stmt} {sg : Scope} {dV kV doc pm cdv ct oc : Value} {an od : Option Addr} {osl : Array (Option Value)} {Ng : List Str}
    {params : Arguments} {body : Expr} {scope : Scope} {t : XK → TE} {p lpos pos : Pos} (hg : Gl X x) (hm : X.mg x = some (.ref g)) (hk : PySem.W.keepIn X.K (.ref g) = true)
    (lk : X.K.lookup g = some ⟨oc, od, .func (PySem.W.fnOf x x pg bg sg dV kV doc pm an cdv ct), osl⟩) (hcg : PySem.W.codeIn X.K cdv x = true) (hb : L2.Binds X.K (PySem.W.fnOf x x pg bg sg dV kV doc pm an cdv ct) [a] []) (Sg : FnScope Ng [a] sg) (hNg : Ng[0]? = some a) (hva : Vis sg a)
    (hG : LamX.GivesTo X Ng x sg g cdv bg a (X.env.qual ++ "<lambda>") TT)
    (TB : LamX.TabB X.base X.mg c P) (hcode : X.env.code = .ref c) (hr : Room (k + 2) X.A) (L : LamX.LamS X.env.scope scope) (hdef : defaultsOf params X.env = ([], []))
    (hbind : ∀ (q : Str) (cl : List (Str × Addr)) (pm cv ctv : Value), bindArgs (PySem.W.kla_fn "<lambda>" q params body scope cl pm cv ctv) ⟨[], []⟩ = pure [])
    (hbody : ∀ (A : Around) (outer : List Env) (s : Shared) (H : Hp) (E : XK) (f c' : Addr), Room k (A.deeper (LamX.lamEnv X scope s.heap.objs.size f c')) → PE (LamX.lamCx X A outer s H E scope f c') body (t E))
    (hdb : (x == ("__debug__" : Str)) = false := by decide) (hd : (a == ("__debug__" : Str)) = false := by decide) (hcd : (a == ("__classdict__" : Str)) = false := by decide) :
    PE X (.Call (.Name x p) [.Lambda params body scope lpos] [] pos) (tLamF P TT t) := by
  refine ⟨fun pins s σ H Q I h => ?_⟩
  obtain ⟨hT, h⟩ := h
  refine wpAny_Call_Name_kw (ld_glob I hg hm ?_ hdb)
  refine PySem.W.callWith_K (h₀ := X.base) I.ok.mod.kin hk ?_ (by rfl) (by rfl)
  show wpAny _ _ (spliced ((false, eval (.Lambda params body scope lpos) X.env) :: backTo pos (starEach [] X.env))) _ _ s
  refine Calls.spliced_cons (lam_fresh I TB hcode hT hdef (L.has I.ok) fun f c' pm' ctv H1 s' I1 eN hf hfn hfr hco => ?_)
  refine Calls.spliced_nil ⟨I1.kIn, ?_⟩
  have rc : codeAny (model X.prog X.w) X.A (.call (.ref g) ⟨[.ref f], []⟩) (CR C8.CX0 X.stack X.prog X.w H1 s' Q C8.E0) s' := by
    refine LamX.run_ofS (N := Ng) (ps := [a]) (us := [.ref f]) (vs := [.ref f]) lk hcg Sg hr I1.env0 (hb s' [.ref f] I1.kIn rfl) (.cons rfl .nil) rfl fun hr' => ?_
    obtain ⟨t', ht', hq'⟩ := hG f c' s' H1 Q (fun E H' Q' => t E σ H' Q') (fun W pn xe E p1 p2 tk hW => LamX.pe_act (i := 0) I1 L hf hfn hfr (hbind _ _ _ _ _) tk hW hr' (fun A outer s H hr2 => hbody A outer s H E f c' hr2) hNg hva hd hcd) hco (h H1 eN)
    exact ⟨t', ht'.nox, hq'⟩
  refine wpAny_call (codeAny_mono rc fun r s2 hq => ?_)
  cases r with
  | error e => exact (show False from hq).elim
  | ok fl =>
    cases fl with
    | ret u => exact I1.after hq
    | next => exact False.elim hq
    | brk => exact False.elim hq
    | cont => exact False.elim hq
end
theorem takes_len {X : Cx} {W W' : WX} (t : Takes X W) (h : ∀ c d (σ : L2.St) H, σ.length = X.N.length → W' c d σ H → W c d σ H) : Takes X W' := fun u s' ⟨a, B, sI, pins, σ, H, cls, d, e, I, nb, up, sky, na, os, ag, w⟩ =>
  t u s' ⟨a, B, sI, pins, σ, H, cls, d, e, I, nb, up, sky, na, os, ag, h _ _ _ _ I.len w⟩
/-! ### _law_told -/
abbrev nLTold : List Str := ["_law_work", "e"]
theorem scLTold : FnScope nLTold ["_law_work"] (defScope sLTold) := ⟨rfl, rfl, rfl, by decide +kernel, rfl, by decide +kernel, by decide +kernel⟩
/-- what is known of the errors' classes -/
structure ErrC (K : PySem.W.Frag) (mg : Str → Option Value) (CL CB : Addr) : Prop where
  mL : mg "LandError" = some (.ref CL)
  mB : mg "BadRow" = some (.ref CB)
  ex : PySem.W.exmOne K (.ref CB) (.ref CL) = some true
  E : ExcC K CB
  kit : PySem.W.kitOne K (.ref CB) (.ref CB) = some true
  F : XfC K CB
  no : PySem.W.findIn K (.ref CB) "index" = some none
def TTold (CB : Addr) : (XK → Hp → VK → Prop) → Hp → VK → Prop := fun tl H Q =>
  tl (fun cls d H' => cls = .ref CB ∧ ∃ (dd : Addr) (v : V), d = some dd ∧ H' dd = some (.xd [("index", v)]) ∧ ∀ p, H' p = none → Q (.ref p) (upd H' p (.tup [.str "row", v]))) H Q
theorem told_gives {X : Cx} {g CL CB : Addr} {cdg : Value} {q : Str} (T : Txt X.mg) (C : ErrC X.K X.mg CL CB) : LamX.GivesTo X nLTold "_law_told" (defScope sLTold) g cdg (defBody sLTold) "_law_work" q (TTold CB) := by
  intro f c' s H Q tl act hc h
  have h0 : (L2.start nLTold [V.ref f])[0]? = some (some (V.ref f)) := rfl
  refine ⟨_, pss_one (ps_try_as (X := (cxOf C8.CX0 X.prog X.w X.K X.mg X.base nLTold "_law_told" (defScope sLTold) g cdg X.A X.stack s H C8.E0).nox) (c := .ref CL) (i := 1) (n := "e")
      (tb := fun W D σ H => ∃ Ech : XK, (∀ cls d σ' H', σ'.length = 2 → Ech cls d H' → W cls d σ' H') ∧ σ[0]? = some (some (.ref f)) ∧ H c' = some (LamX.CodeO c' q) ∧ tl Ech H D.rt)
      rfl rfl scLTold.nd rfl rfl ⟨rfl, by decide, .inl C.mL⟩ LamX.takes0 (fun W pn xe tk _ => ?_) (fun a oe cls d pn hz hf => pss_one (ps_ret (pe_ifExp (pt_val (pe_callB (call_isF hz hf) (by rfl) T.isi bt_isi (pa_cons (pv 1) (pa_cons (pe_glob (v := .ref CB) rfl C.mB rfl) pa_nil))))
        (pe_tup (pa_cons pe_str (pa_cons (pe_xg hz hf (pv 1)) pa_nil))) pe_str)))), ?_⟩
  · refine ⟨fun pins s' σ H' D I h' => ?_⟩
    obtain ⟨Ech, hW, h1, h2, h3⟩ := h'
    refine (pss_one (ps_ret (act (fun cls d _ H' => Ech cls d H') pn xe Ech _ _ (takes_len tk fun c d σ H hl h => hW c d σ H hl h) (fun _ _ _ _ h => h)))).run pins s' σ H' D I ?_
    exact ⟨h1, h2, h3⟩
  · refine ⟨fun cls d H' => cls = .ref CB ∧ ∃ (dd : Addr) (v : V), d = some dd ∧ H' dd = some (.xd [("index", v)]) ∧ ∀ p, H' p = none → Q (.ref p) (upd H' p (.tup [.str "row", v])), fun cls d σ' H' hl ⟨e1, dd, v, e2, e3, e4⟩ => ?_, h0, hc, h⟩
    subst e1 e2
    refine ⟨true, C.ex, fun _ a ha => ?_, fun z => by cases z⟩
    have h1 : (σ'.set 1 (some (V.ref a)))[1]? = some (some (V.ref a)) := List.getElem?_set_self (by omega)
    refine ⟨_, h1, CB, CB, dd, _, true, rfl, rfl, rfl, C.E, e3, C.kit, _, rfl, iteT ?_⟩
    refine ⟨_, h1, rfl, CB, dd, _, v, rfl, C.F, C.no, rfl, e3, rfl, (by show 2 ≤ sizeLine; exact line_le (by decide)), fun p hp => ?_⟩
    exact e4 p hp
end SK
end

section
/-! What the law itself needs. -/
namespace SK
open PySem PySem.Spec PyProof.Rows L2 GxR SKG SKR
section
variable {K : PySem.W.Frag} {H H' : Hp} {PA PM PL r sc : Addr} {ns : List Int}
theorem Alk.up : ∀ {n : Nat} {v u : V}, Alk K H n v u → Alk K H (n + 1) v u
  | 0, _, _, h => .inl h
  | n + 1, _, _, h => by
    rcases h with h | ⟨a, b, xs, ys, h1, h2, h3, h4, h5, h6, h7⟩
    · exact .inl h
    · exact .inr ⟨a, b, xs, ys, h1, h2, h3, h4, h5, h6, fun i x y hx hy => Alk.up (h7 i x y hx hy)⟩
theorem alk_flat {v : V} {n : String} (h : Flt v n) : Alk K H 0 v v := ⟨rfl, n, h⟩
theorem alk_same {n : Nat} {a b : Addr} {xs : List V} (ha : SqT K H a xs) (hb : SqT K H b xs) (hl : xs.length ≤ 1000) (h : ∀ x ∈ xs, Alk K H n x x) : Alk K H (n + 1) (.ref a) (.ref b) :=
  .inr ⟨a, b, xs, xs, rfl, rfl, ha, hb, rfl, hl, fun i x y hx hy => by
    rw [hx] at hy
    cases hy
    exact h x (List.mem_of_getElem? hx)⟩
theorem alk_two {n : Nat} {a b : Addr} {x1 x2 y1 y2 : V} (ha : SqT K H a [x1, x2]) (hb : SqT K H b [y1, y2]) (h1 : Alk K H n x1 y1) (h2 : Alk K H n x2 y2) : Alk K H (n + 1) (.ref a) (.ref b) :=
  .inr ⟨a, b, [x1, x2], [y1, y2], rfl, rfl, ha, hb, rfl, (by show 2 ≤ 1000; decide), fun i x y hx hy => by
    match i, hx, hy with
    | 0, hx, hy => cases hx; cases hy; exact h1
    | 1, hx, hy => cases hx; cases hy; exact h2
    | i + 2, hx, hy => simp at hx⟩
theorem alk_int (i : Int) : Alk K H 0 (.int i) (.int i) := alk_flat (.int i)
theorem alk_tk {x y : V} {t : Nat × Nat} (h1 : IsTk K H x t) (h2 : IsTk K H y t) : Alk K H 1 x y := by
  obtain ⟨a, rfl, ha⟩ := h1
  obtain ⟨b, rfl, hb⟩ := h2
  exact alk_two ha hb (alk_int _) (alk_int _)
theorem alk_ch {a b c d : Addr} {arms : Nat} {cells : List Nat} (h1 : ChAt K H a c arms cells) (h2 : ChAt K H b d arms cells) (hl : cells.length ≤ 1000) : Alk K H 2 (.ref a) (.ref b) := by
  refine alk_two h1.t h2.t (alk_int _).up (alk_same h1.c h2.c (by rw [vN_len]; exact hl) fun x hx => ?_)
  unfold vN at hx
  obtain ⟨n, _, rfl⟩ := List.mem_map.mp hx
  exact alk_int _
theorem alk_prs {a b : Addr} {xs ys : List V} {ts : List (Nat × Nat)} (ha : SqT K H a xs) (hb : SqT K H b ys) (h1 : Prs K H xs ts) (h2 : Prs K H ys ts) (hl : ts.length ≤ 1000) : Alk K H 2 (.ref a) (.ref b) := by
  have l1 := h1.length
  have l2 := h2.length
  refine .inr ⟨a, b, xs, ys, rfl, rfl, ha, hb, by omega, by omega, fun i x y hx hy => ?_⟩
  obtain ⟨t, ht, hxt⟩ := paired_got h1 hx
  obtain ⟨u, hu, hyu⟩ := paired_got h2 hy
  rw [ht] at hu
  cases hu
  exact alk_tk hxt hyu
theorem alk_chs {a b : Addr} {xs ys : List V} {arms : Nat} {cs : List (List Nat)} (ha : SqT K H a xs) (hb : SqT K H b ys) (h1 : Chs K H arms xs cs) (h2 : Chs K H arms ys cs) (hl : cs.length ≤ 1000) (hz : ∀ c ∈ cs, c.length ≤ 1000) : Alk K H 3 (.ref a) (.ref b) := by
  have l1 := h1.length
  have l2 := h2.length
  refine .inr ⟨a, b, xs, ys, rfl, rfl, ha, hb, by omega, by omega, fun i x y hx hy => ?_⟩
  obtain ⟨t, ht, a1, c1, rfl, C1⟩ := paired_got h1 hx
  obtain ⟨u, hu, a2, c2, rfl, C2⟩ := paired_got h2 hy
  rw [ht] at hu
  cases hu
  exact alk_ch C1 C2 (hz t (List.mem_of_getElem? ht))
theorem paired_take {α β : Type} {F : α → β → Prop} : ∀ {l : List α} {m : List β} (i : Nat), Paired F l m → Paired F (l.take i) (m.take i)
  | _, _, 0, _ => .nil
  | _, _, i + 1, .nil => .nil
  | _, _, i + 1, .cons r t => .cons r (paired_take i t)
theorem paired_drop {α β : Type} {F : α → β → Prop} : ∀ {l : List α} {m : List β} (i : Nat), Paired F l m → Paired F (l.drop i) (m.drop i)
  | _, _, 0, h => h
  | _, _, i + 1, .nil => .nil
  | _, _, i + 1, .cons _ t => paired_drop i t
/-- what all steps of the law keep -/
structure Fx (K : PySem.W.Frag) (PA PM PL r sc : Addr) (ns : List Int) (H : Hp) : Prop where
  R : Rw K H r sc ns
  tA : TabG H PA
  tM : TabG H PM
  tL : H PL = some (.tbl #[])
theorem Fx.gw (h : Fx K PA PM PL r sc ns H) (e : Gw PA PM H H') (n1 : PL ≠ PA) (n2 : PL ≠ PM) : Fx K PA PM PL r sc ns H' := ⟨h.R.gw e, e.tab _ h.tA, e.tab _ h.tM, e.keepT _ n1 n2 _ h.tL⟩
theorem Fx.kp (h : Fx K PA PM PL r sc ns H) (e : Kp r H H') (R' : Rw K H' r sc ns) : Fx K PA PM PL r sc ns H' := by
  refine ⟨R', SK.TabG.kp h.tA e h.R, SK.TabG.kp h.tM e h.R, ?_⟩
  obtain ⟨ys, hr⟩ := h.R.lst
  exact e.keep _ _ (ne_of h.tL hr (by intro z; cases z)) h.tL
theorem Fx.same (h : Fx K PA PM PL r sc ns H) (e : Same H H') : Fx K PA PM PL r sc ns H' := by
  refine ⟨h.R.same e, (Gw.of (PA := PA) (PM := PM) e).tab _ h.tA, (Gw.of (PA := PA) (PM := PM) e).tab _ h.tM, e _ _ h.tL⟩
/-- another list changed -/
theorem Fx.upd {H0 : Hp} {p : Addr} {xs : List V} {o : HO} (h : Fx K PA PM PL r sc ns H) (R0 : Rw K H0 r sc ns) (hp : H p = some (.lst xs)) (n2 : H0 p = none) : Fx K PA PM PL r sc ns (L2.upd H p o) := by
  have n : p ≠ r := fun z => by
    obtain ⟨ys, hr⟩ := R0.lst
    rw [z, hr] at n2
    cases n2
  refine ⟨h.R.upd R0 n n2, ?_, ?_, ?_⟩
  · obtain ⟨ps, h1, h2⟩ := h.tA
    exact ⟨ps, by rw [upd_ne (ne_of h1 hp (by intro z; cases z))]; exact h1, h2⟩
  · obtain ⟨ps, h1, h2⟩ := h.tM
    exact ⟨ps, by rw [upd_ne (ne_of h1 hp (by intro z; cases z))]; exact h1, h2⟩
  · rw [upd_ne (ne_of h.tL hp (by intro z; cases z))]
    exact h.tL
theorem kp_draw {vs : List V} (R : Rw K H r sc ns) (d : Dr r sc H H') : Kp r H H' ∧ Rw K H' r sc ns := ⟨d.kp R, d.rw R⟩
/-- all but one table stays -/
theorem sqT_but {P : Addr} {ps : Array Value} {a : Addr} {xs : List V} (e : ∀ b o, b ≠ P → H b = some o → H' b = some o) (hP : H P = some (.tbl ps)) (h : SqT K H a xs) : SqT K H' a xs := by
  rcases h with (h | ⟨o, h⟩) | h
  · exact .inl (.inl (e _ _ (ne_of h hP (by intro z; cases z)) h))
  · exact .inl (.inr ⟨o, e _ _ (ne_of h hP (by intro z; cases z)) h⟩)
  · exact .inr h
theorem ChAt.but {P : Addr} {ps : Array Value} {a c : Addr} {arms : Nat} {cells : List Nat} (h : ChAt K H a c arms cells) (e : ∀ b o, b ≠ P → H b = some o → H' b = some o) (hP : H P = some (.tbl ps)) : ChAt K H' a c arms cells := ⟨sqT_but e hP h.t, sqT_but e hP h.c⟩
theorem Prs.but {P : Addr} {ps : Array Value} {xs : List V} {ts : List (Nat × Nat)} (h : Prs K H xs ts) (e : ∀ b o, b ≠ P → H b = some o → H' b = some o) (hP : H P = some (.tbl ps)) : Prs K H' xs ts := Paired.mapP h fun _ _ z => let ⟨q, h1, h2⟩ := z; ⟨q, h1, sqT_but e hP h2⟩
theorem TabG.but {P R : Addr} (h : TabG H R) (e : ∀ b o, b ≠ P → H b = some o → H' b = some o) (n : R ≠ P) : TabG H' R := let ⟨ps, h1, h2⟩ := h; ⟨ps, e _ _ n h1, h2⟩
/-- a slice of a tuple, one way to say it -/
theorem slA_of {a : Addr} {xs : List V} {lo hi : Option Int} {Q : VK} (S : SqT K H a xs) (h : ∀ q H', Same H H' → SqT K H' q (cutV xs lo hi) → Q (.ref q) H') : rSlA K (.ref a) lo hi H Q := by
  refine ⟨a, xs, rfl, S, fun hw => h a H (Same.refl H) ?_, fun _ p hp => h p _ (same_new hp) (.inl (.inl upd_same))⟩
  have e : cutV xs lo hi = xs := by
    unfold cutV
    rw [hw.1, hw.2, List.drop_zero, Nat.sub_zero, List.take_length]
  rw [e]
  exact S
theorem slA_hi {σ : L2.St} {a : Addr} {xs : List V} {lo : Option Int} {Q : VK} (S : SqT K H a xs) (h : ∀ q H', Same H H' → SqT K H' q (cutV xs lo none) → Q (.ref q) H') : tNoPart σ H (fun u H3 => rSlA K (.ref a) lo u H3 Q) := slA_of S h
theorem catA_of {a b : Addr} {xs ys : List V} {Q : VK} (S1 : SqT K H a xs) (S2 : SqT K H b ys) (hz : xs.length + ys.length ≤ sizeLine) (h : ∀ q H', Same H H' → SqT K H' q (xs ++ ys) → Q (.ref q) H') : rCatA K (.ref a) (.ref b) H Q := by
  refine ⟨a, b, xs, ys, rfl, rfl, S1, S2, hz, fun h0 => h b H (Same.refl H) ?_, fun _ h1 => h a H (Same.refl H) ?_, fun _ _ p hp => h p _ (same_new hp) (.inl (.inl upd_same))⟩
  · rw [h0, List.nil_append]; exact S2
  · rw [h1, List.append_nil]; exact S1
end
/-! ### the first one that cannot be made -/
structure BadI (arms len : Nat) (cells : List Nat) (bt : List (Nat × Nat)) (i : Nat) (bv : V) (m : Nat) : Prop where
  le : m ≤ i
  made : MadeAll arms len cells (bt.take m)
  or : (bv = .non ∧ m = i) ∨ (bv = .int (m : Nat) ∧ m < i ∧ ∀ t, bt[m]? = some t → ¬ Made arms len (fint cells (bt.take m)) t.1 t.2)
theorem bad_same {arms len m m' : Nat} {cells : List Nat} {bt : List (Nat × Nat)} (h1 : MadeAll arms len cells (bt.take m)) (h2 : MadeAll arms len cells (bt.take m')) (hm : m < bt.length) (hm' : m' < bt.length)
    (n1 : ∀ t, bt[m]? = some t → ¬ Made arms len (fint cells (bt.take m)) t.1 t.2) (n2 : ∀ t, bt[m']? = some t → ¬ Made arms len (fint cells (bt.take m')) t.1 t.2) : m = m' := by
  have key : ∀ {m m' : Nat}, MadeAll arms len cells (bt.take m') → m < bt.length → (∀ t, bt[m]? = some t → ¬ Made arms len (fint cells (bt.take m)) t.1 t.2) → m < m' → False := by
    intro m m' h2 hm n1 z
    have e : bt[m]? = some bt[m] := List.getElem?_eq_getElem hm
    have e2 : (bt.take m')[m]? = some bt[m] := by rw [List.getElem?_take_of_lt z]; exact e
    have q := h2 m _ e2
    rw [List.take_take, Nat.min_eq_left (by omega)] at q
    exact n1 _ e q
  rcases Nat.lt_trichotomy m m' with z | z | z
  · exact (key h2 hm n1 z).elim
  · exact z
  · exact (key h1 hm' n2 z).elim
theorem pth_size : ∀ (ts : List (Nat × Nat)) (cells : List Nat), ∀ c ∈ pth cells ts, c.length = cells.length
  | [], cells, c, h => by
    have h : c ∈ [cells] := h
    rw [List.mem_singleton.mp h]
  | t :: ts, cells, c, h => by
    have h : c ∈ cells :: pth (mv cells t) ts := h
    rcases List.mem_cons.mp h with e | e
    · rw [e]
    · rw [pth_size ts _ c e]
      unfold mv
      rw [List.length_set]
end SK
end

section
set_option maxHeartbeats 8000000
namespace SK
open PySem PySem.Spec PyProof.Rows L2 GxR SKG SKR
section
variable {P : Program} {w : World} {K : PySem.W.Frag} {mg : Str → Option Value} {base : Heap} {f c PL : Addr} {fd : FuncData} {PA PM CL CB : Addr}
abbrev nLaw : List Str := ["_law_script", "_law_row", "_law_arms", "_law_length", "_law_lands", "_law_chart", "_law_some", "_law_taking", "_law_steps", "_law_end", "_law_here", "_law_due", "_law_step", "_law_at", "_law_bent", "_law_bad", "_law_k"]
theorem scLaw : FnScope nLaw ["_law_script"] (defScope sLaw) := ⟨rfl, rfl, rfl, by decide +kernel, rfl, by decide +kernel, by decide +kernel⟩
def spLaw (K : PySem.W.Frag) (PA PM PL : Addr) : Sp := fun vs H Q _ => ∃ (sc : Addr) (ns : List Int), vs = [.ref sc] ∧ SqL K H sc (ns.map V.int) ∧ ns.length ≤ 63 ∧ TabG H PA ∧ TabG H PM ∧ H PL = some (.tbl #[]) ∧ ∀ H', Q (.bl true) H'
/-- all that the law calls -/
structure LawD (P : Program) (w : World) (K : PySem.W.Frag) (mg : Str → Option Value) (base : Heap) (PA PM CL CB : Addr) : Prop where
  taken : Dn P w K mg base CX0 1 "_law_taken" ["_law_row", "_law_many"] (spLTaken K)
  alike : Dn P w K mg base CX0 4 "_law_alike" ["_law_found", "_law_due"] (spAlike K 3)
  map : Dn P w K mg base CX0 3 "_law_map" ["_law_row", "_law_arms", "_law_length", "_law_lands"] (spLMap K)
  ltak : Dn P w K mg base CX0 3 "_law_takings" ["_law_chart"] (spLTakings K)
  beh : Dn P w K mg base CX0 1 "_law_behind" ["_law_chart", "_law_taking"] (spLBehind K)
  walk : Dn P w K mg base CX0 4 "_law_walk" ["_law_row", "_law_chart", "_law_many"] (spLWalk K)
  isl : Dn P w K mg base CX0 2 "_law_island" ["_law_row", "_law_most"] (spLIsland K)
  tak : Dn P w K mg base CX0 7 "takings" ["chart"] (spTakings K PA PM)
  can : Dn P w K mg base CX0 8 "can_take" ["chart", "taking"] (spCanTake K PA PM)
  back : Dn P w K mg base CX0 8 "taken_back" ["chart", "taking"] (spTakenBack K PA PM)
  trd : Dn P w K mg base CX0 8 "traced" ["chart", "row"] (spTraced K PA PM)
  done : Dn P w K mg base (L2.CX P w) 8 "done" ["chart", "row"] (spDone K PA PM CB)
  err : ErrC K mg CL CB
theorem ok_law {g : Addr} {fdg : FuncData} (F : FunC K "law" sLaw f fd c) (T : Txt mg) (D : LawD P w K mg base PA PM CL CB) (FT : Fun K "_law_told" "_law_told" sLTold g fdg) (hmg : mg "_law_told" = some (.ref g)) (hkg : PySem.W.keepIn K (.ref g) = true) (hbg : L2.Binds K fdg ["_law_work"] [])
    (TB : LamX.TabB base mg c PL) (n1 : PL ≠ PA) (n2 : PL ≠ PM) : FnOk P w K mg base CX0 11 f fd ["_law_script"] (spLaw K PA PM PL) := by
  obtain ⟨oc, od, kV, doc, pm, an, cdv, ct, osl, rfl, lk, hcd⟩ := FT.ex
  refine F.ok scLaw (fun vs H Q E h => ?_) (fun A outer s H vs Q E hr h => ?_)
  · obtain ⟨_, _, rfl, _⟩ := h
    rfl
  obtain ⟨sc, ns, rfl, S, hn, tA, tM, tL, kQ⟩ := h
  refine ⟨_, pss_cons (ps_set (i := 1) scLaw.nd rfl (Or.inl rfl) (pe_lst (pa_cons (pv 0) (pa_cons (pn 0) (pa_cons pe_int (pa_cons pe_int pa_nil))))))
    (pss_cons (ps_asg (pe_d (k := 2) D.isl (hr.mono (by decide)) (pa_cons (pv 1) (pa_cons (pn 4) pa_nil))) (pg_tup (n := 3) rfl (pgs_cons (pg_name (i := 2) scLaw.nd rfl (Or.inl rfl)) (pgs_cons (pg_name (i := 3) scLaw.nd rfl (Or.inl rfl)) (pgs_cons (pg_name (i := 4) scLaw.nd rfl (Or.inl rfl)) pgs_nil)))))
    (pss_cons (ps_set (i := 5) scLaw.nd rfl (Or.inr rfl) (pe_d (k := 3) D.map (hr.mono (by decide)) (pa_cons (pv 1) (pa_cons (pv 2) (pa_cons (pv 3) (pa_cons (pv 4) pa_nil))))))
    (pss_cons (ps_par (i := 6) (j := 7) rfl scLaw.nd rfl rfl (by decide) rfl rfl (pa_cons (pe_d (k := 3) D.ltak (hr.mono (by decide)) (pa_cons (pv 5) pa_nil)) (pa_cons (pe_tup (pa_cons (pe_d (k := 1) D.taken (hr.mono (by decide)) (pa_cons (pv 1) (pa_cons (pv 4) pa_nil))) (pa_cons (pe_d (k := 1) D.taken (hr.mono (by decide)) (pa_cons (pv 1) (pa_cons (pe_op addK (pe_op mulK (pv 2) (pv 3)) (pn 1)) pa_nil))) pa_nil))) pa_nil)) (by rfl))
    (pss_cons (ps_if (PW.pt (pw_or (pt_not (pt_val (pe_d (k := 4) D.alike (hr.mono (by decide)) (pa_cons (pe_d (k := 7) D.tak (hr.mono (by decide)) (pa_cons (pv 5) pa_nil)) (pa_cons (pe_callTy call_tuple_of (by rfl) T.tuple bt_tuple (pa_cons (pv 6) pa_nil)) pa_nil)))))
        (pw_or1 (pt_not (pt_val (pe_d (k := 4) D.alike (hr.mono (by decide)) (pa_cons (pe_d (k := 8) D.can (hr.mono (by decide)) (pa_cons (pv 5) (pa_cons (pv 7) pa_nil))) (pa_cons (pe_cmpR (op_inD (r65 hr)) (pv 7) (pv 6) (by rfl)) pa_nil)))))))) pss_never pss_nil)
    (pss_cons (ps_asg (pe_d (k := 4) D.walk (hr.mono (by decide)) (pa_cons (pv 1) (pa_cons (pv 5) (pa_cons (pe_d (k := 1) D.taken (hr.mono (by decide)) (pa_cons (pv 1) (pa_cons (pn 8) pa_nil))) pa_nil)))) (pg_tup (n := 2) rfl (pgs_cons (pg_name (i := 8) scLaw.nd rfl (Or.inl rfl)) (pgs_cons (pg_name (i := 9) scLaw.nd rfl (Or.inl rfl)) pgs_nil))))
    (pss_cons (ps_par (i := 10) (j := 11) rfl scLaw.nd rfl rfl (by decide) rfl rfl (pa_cons (pv 5) (pa_cons (pe_lst (pa_cons (pv 5) pa_nil)) pa_nil)) (by rfl))
    (pss_cons (ps_for PassesOwn.never rfl (pi_tup (pv 8)) (pg_name (i := 12) scLaw.nd rfl (Or.inl rfl))
      (pss_cons (ps_if (pt_not (pt_val (pe_d (k := 4) D.alike (hr.mono (by decide)) (pa_cons (pe_d (k := 8) D.back (hr.mono (by decide)) (pa_cons (pv 10) (pa_cons (pv 12) pa_nil)))
          (pa_cons (pe_tup (pa_cons (pe_ix ix_tup (pe_ix ix_tup (pv 10) (pn 1) (fun _ _ => rfl)) (pe_ix ix_tup (pv 12) (pn 1) (fun _ _ => rfl)) (fun _ _ => rfl)) (pa_cons (pe_ix ix_tup (pv 12) (pn 1) (fun _ _ => rfl)) pa_nil))) pa_nil))))) pss_never pss_nil)
      (pss_cons (ps_set (i := 10) scLaw.nd rfl (Or.inl rfl) (pe_d (k := 1) D.beh (hr.mono (by decide)) (pa_cons (pv 10) (pa_cons (pv 12) pa_nil))))
      (pss_one (ps_expr (pe_bm PySem.F.plainAttrs_list PySem.F.slot_list_append PySem.F.type_list_append mt_append (pv 11) (pa_cons (pv 10) pa_nil)))))))
    (pss_cons (ps_if (PW.pt (pw_or (pt_not (pt_val (pe_d (k := 4) D.alike (hr.mono (by decide)) (pa_cons (pe_dl (k := 8) D.done (hr.mono (by decide)) (pa_cons (pv 5) (pa_cons (pv 8) pa_nil))) (pa_cons (pv 9) pa_nil)))))
        (pw_or1 (pt_not (pt_val (pe_d (k := 4) D.alike (hr.mono (by decide)) (pa_cons (pe_d (k := 8) D.trd (hr.mono (by decide)) (pa_cons (pv 5) (pa_cons (pv 8) pa_nil))) (pa_cons (pe_callTy call_tuple_of (by rfl) T.tuple bt_tuple (pa_cons (pv 11) pa_nil)) pa_nil)))))))) pss_never pss_nil)
    (pss_cons (ps_set (i := 13) scLaw.nd rfl (Or.inl rfl) (pe_d (k := 1) D.taken (hr.mono (by decide)) (pa_cons (pv 1) (pa_cons (pe_op addK (pe_callB call_len_seq (by rfl) T.len bt_len (pa_cons (pv 8) pa_nil)) (pn 1)) pa_nil))))
    (pss_cons (ps_set (i := 14) scLaw.nd rfl (Or.inr rfl) (pe_op op_catA (pe_op op_catA (pe_slice sl_tupA (pv 8) po_none (po_some (pv 13))) (pe_tup (pa_cons (pv 7) pa_nil))) (pe_slice sl_tupA (pv 8) (po_some (pv 13)) po_none)))
    (pss_cons (ps_par (i := 10) (j := 15) rfl scLaw.nd rfl rfl (by decide) rfl rfl (pa_cons (pv 5) (pa_cons pe_non pa_nil)) (by rfl))
    (pss_cons (ps_for PassesOwn.never rfl (pi_range1 (by rfl) T.range (pa_cons (pe_callB call_len_seq (by rfl) T.len bt_len (pa_cons (pv 14) pa_nil)) pa_nil)) (pg_name (i := 16) scLaw.nd rfl (Or.inl rfl))
      (pss_cons (ps_if (PW.pt (pw_and (pt_cmpR op_isN (pv 15) pe_non (nomark _)) (pw_and1 (pt_cmpR (op_notInD (r65 hr)) (pe_ix ix_tup (pv 14) (pv 16) (fun _ _ => rfl)) (pe_d (k := 3) D.ltak (hr.mono (by decide)) (pa_cons (pv 10) pa_nil)) (by rfl)))))
        (pss_one (ps_set (i := 15) scLaw.nd rfl (Or.inl rfl) (pv 16))) pss_nil)
      (pss_one (ps_if (pt_cmpR op_isN (pv 15) pe_non (nomark _)) (pss_one (ps_set (i := 10) scLaw.nd rfl (Or.inl rfl) (pe_d (k := 1) D.beh (hr.mono (by decide)) (pa_cons (pv 10) (pa_cons (pe_ix ix_tup (pv 14) (pv 16) (fun _ _ => rfl)) pa_nil))))) pss_nil))))
    (pss_one (ps_ret (pe_d (k := 4) D.alike (hr.mono (by decide)) (pa_cons (pe_lamF (k := 8) (P := PL) (c := c) (Ng := nLTold) (a := "_law_work") (TT := TTold CB) (by rfl) hmg hkg lk hcd hbg scLTold rfl (Or.inl rfl) (told_gives T D.err) TB rfl (hr.mono (by decide)) (LamX.lamS_by (sc := defScope sLaw) (by decide +kernel)) (by rfl) (fun _ _ _ _ _ => by rfl)
        (fun A outer s H E f c' hr2 => pe_dx (k := 8) (E := E) D.done hr2 (takes_of rfl rfl rfl rfl) (fun _ _ _ _ h => h) (pa_cons (pv 5) (pa_cons (pv 14) pa_nil))))
      (pa_cons (pe_ifExp (pt_cmpR op_isN (pv 15) pe_non (nomark _)) (pv 10) (pe_tup (pa_cons pe_str (pa_cons (pv 15) pa_nil)))) pa_nil))))))))))))))))), ?_⟩
  refine ⟨_, rfl, (by show 4 ≤ sizeLine; exact line_le (by decide)), fun r hr0 => ?_⟩
  have s1 := same_new (o := .lst [V.ref sc, .int ((0 : Nat) : Int), .int 13902, .int 0]) hr0
  have R1 : Rw K (upd H r (.lst [V.ref sc, .int ((0 : Nat) : Int), .int 13902, .int 0])) r sc ns := by
    refine ⟨⟨0, 13902, 0, upd_same, by decide, by decide⟩, s1.seq S, ?_, hn⟩
    rcases S with (S | ⟨o, S⟩) | S
    · exact .inr (ne_of_none S hr0)
    · exact .inr (ne_of_none S hr0)
    · exact .inl S
  have F1 : Fx K PA PM PL r sc ns (upd H r (.lst [V.ref sc, .int ((0 : Nat) : Int), .int 13902, .int 0])) := ⟨R1, (Gw.of (PA := PA) (PM := PM) s1).tab _ tA, (Gw.of (PA := PA) (PM := PM) s1).tab _ tM, s1 _ _ tL⟩
  generalize upd H r (.lst [V.ref sc, .int ((0 : Nat) : Int), .int 13902, .int 0]) = H1 at F1 R1 ⊢
  refine ⟨_, rfl, r, sc, ns, rfl, R1, fun H2 p arms len lands k2 I hl2 hlm R2 e2 => ?_⟩
  have F2 := F1.kp k2 R2
  refine ⟨p, _, rfl, .inl (.inl e2), rfl, _, _, rfl, _, _, rfl, _, _, rfl, rfl, ?_⟩
  refine ⟨_, rfl, _, rfl, _, rfl, _, rfl, r, sc, ns, arms, len, lands, rfl, R2, I, hl2, hlm, fun H3 a cc cells k3 R3 C3 G => ?_⟩
  have F3 := F2.kp k3 R3
  have h17 := isl_small I
  have hl4 := I.l4
  have ha4 : arms ≤ 4 := by rcases I.a with e | e <;> omega
  have nr : ∀ {p : Addr}, H3 p = none → p ≠ r := fun {p} hp z => by
    obtain ⟨ys, h⟩ := R3.lst
    rw [z, h] at hp
    cases hp
  refine ⟨_, rfl, a, cc, arms, len, lands, cells, rfl, C3, G, fun H4 ps xs s4 hps e4 r4 => ?_⟩
  have F4 := F3.same s4
  refine ⟨_, rfl, _, rfl, r, sc, ns, lands, rfl, F4.R, by omega, by omega, fun l H5 hl d5 => ?_⟩
  have k5 := d5.kp F4.R
  have F5 := F4.kp k5 (d5.rw F4.R)
  refine ⟨_, rfl, _, rfl, _, rfl, arms, len, rfl, rfl, (by omega : arms < 2 ^ 64), _, 1, rfl, rfl, r, sc, ns, arms * len + 1, rfl, F5.R, by omega, by omega, fun cl H6 hcl d6 => ?_⟩
  have k6 := d6.kp F5.R
  have F6 := F5.kp k6 (d6.rw F5.R)
  refine ⟨(by show 2 ≤ sizeLine; exact line_le (by decide)), fun tk htk => ⟨_, _, rfl, ?_⟩⟩
  have s7 := same_new (o := .tup [.int (l : Nat), .int (cl : Nat)]) htk
  have F7 := F6.same s7
  have k47 := (k5.trans k6).trans (Kp.of s7)
  have C7 := (C3.same s4).kp k47 F4.R
  have e7 := k47.keep _ _ (nr hps) e4
  have r7 := r4.kp k47 F4.R
  have S7 : SqT K (upd H6 tk (.tup [.int (l : Nat), .int (cl : Nat)])) tk [.int (l : Nat), .int (cl : Nat)] := .inl (.inl upd_same)
  have htl : (tks arms len lands cells).length ≤ 1000 := by
    have := tks_len G lands (Nat.le_refl _)
    have e : tks arms len lands cells = (List.range lands).flatMap fun l => tksOf arms len (arms * len + 1) cells l := rfl
    rw [e]
    have := G.lm
    omega
  generalize upd H6 tk (.tup [.int (l : Nat), .int (cl : Nat)]) = H7 at F7 C7 e7 r7 S7 ⊢
  -- the takings, can_take
  refine ⟨_, rfl, a, cc, arms, len, lands, cells, rfl, C7, G, F7.tA, F7.tM, fun H8 p8 ys g8 e8 r8 => ?_⟩
  have e8s := g8.keep _ _ e7 (fun ps z => by cases z)
  have F8 := F7.gw g8 n1 n2
  refine ⟨_, rfl, ps, xs, rfl, .inl ⟨.inl (.inl e8s), fun q hq => ?_⟩⟩
  have s9 := same_new (o := .tup xs) hq
  have F9 := F8.same s9
  have r9 : Prs K (upd H8 q (.tup xs)) ys (tks arms len lands cells) := r8.gw (PA := PA) (PM := PM) (Gw.of s9)
  have r9' : Prs K (upd H8 q (.tup xs)) xs (tks arms len lands cells) := (r7.gw g8).gw (PA := PA) (PM := PM) (Gw.of s9)
  refine ⟨_, _, rfl, (alk_prs (.inl (.inl (s9 _ _ e8))) (.inl (.inl upd_same)) r9 r9' htl).up, fun H10 s10 => ⟨_, rfl, iteF ?_⟩⟩
  have g10 : Gw PA PM H7 H10 := g8.trans (Gw.of (s9.trans s10))
  have F10 := F7.gw g10 n1 n2
  have X10 : TkArgs K H10 a cc tk arms len lands l cl cells := ⟨C7.gw g10, G, sqT_gw g10 S7, hl, hcl⟩
  refine ⟨_, rfl, _, rfl, a, cc, tk, arms, len, lands, l, cl, cells, rfl, X10, F10.tA, F10.tM, fun H11 g11 => ?_⟩
  have g711 := g10.trans g11
  have F11 := F7.gw g711 n1 n2
  have e11 := g711.keep _ _ e7 (fun ps z => by cases z)
  have r11 := r7.gw g711
  have S11 := sqT_gw g711 S7
  refine ⟨_, rfl, _, rfl, dP (l, cl), _, dp_P (t := (l, cl)) S11, .lst (.inl (.inl e11)) r11.dp, sh_dP _, sh_dPs _, ?_⟩
  rw [any_dP]
  have eM : decide ((l, cl) ∈ tks arms len lands cells) = dec (Made arms len cells l cl) := dec_eq (decide_eq_true_iff.trans (mem_tks.trans ⟨fun h => h.2.2, fun h => ⟨hl, hcl, h⟩⟩))
  rw [eM]
  refine ⟨_, _, rfl, (alk_flat (.bl _)).up.up.up, fun H12 s12 => ⟨_, rfl, iteF ?_⟩⟩
  have g12 : Gw PA PM H7 H12 := g711.trans (Gw.of s12)
  have F12 := F7.gw g12 n1 n2
  have C12 := C7.gw g12
  have S12 := sqT_gw g12 S7
  -- the walk
  refine ⟨_, rfl, _, rfl, _, rfl, r, sc, ns, 8, rfl, F12.R, by decide, by decide, fun many H13 hm d13 => ?_⟩
  have k13 := d13.kp F12.R
  have F13 := F12.kp k13 (d13.rw F12.R)
  refine ⟨r, sc, a, cc, ns, arms, len, lands, many, cells, rfl, F13.R, C12.kp k13 F12.R, G, by omega, fun H14 p t b cb zs ts k14 R14 e14 et rt Cb M A hlen => ?_⟩
  have k1214 := k13.trans k14
  have F14 := F13.kp k14 R14
  have C14 := C12.kp k1214 F12.R
  have S14 := sqT_kp k1214 F12.R S12
  refine ⟨p, _, rfl, .inl (.inl e14), rfl, _, _, rfl, _, _, rfl, rfl, ?_⟩
  refine ⟨_, rfl, _, rfl, (by show 1 ≤ sizeLine; exact line_le (by decide)), fun pd hpd => ⟨_, _, rfl, ?_⟩⟩
  have s15 := same_new (o := .lst [V.ref a]) hpd
  have hzl : zs.length = ts.length := rt.length
  refine ⟨_, rfl, t, rfl, ⟨_, .inl (.inl (s15 _ _ et))⟩, for_tup (K := K) (a := t) (xs := zs) (fun i σ H1 => ∃ (v12 : Option V) (b' cb' : Addr) (ys : List V), σ = [some (.ref sc), some (.ref r), some (.int arms), some (.int len), some (.int lands), some (.ref a), some (.ref ps), some (.ref tk), some (.ref t), some (.ref b), some (.ref b'), some (.ref pd), v12, none, none, none, none] ∧
    Gw PA PM H14 H1 ∧ ChAt K H1 b' cb' arms (fint cells (ts.take i)) ∧ H1 pd = some (.lst ys) ∧ Chs K H1 arms ys (pth cells (ts.take i))) ⟨none, a, cc, [.ref a], rfl, Gw.of s15, C14.same s15, upd_same, .cons ⟨a, cc, rfl, C14.same s15⟩ .nil⟩ (fun i σ H1 _ h => ?_) ?_ ?_⟩
  · obtain ⟨_, _, _, _, _, g, _⟩ := h
    exact sqT_gw g (.inl (.inl et))
  · rintro i x σ H1 hx ⟨v12, b', cb', ys, rfl, g1, C1, e1, r1⟩
    obtain ⟨u, hu, q, rfl, Sq⟩ := paired_got rt hx
    have hlt : i < ts.length := (List.getElem?_eq_some_iff.mp hu).1
    have F1 := F14.gw g1 n1 n2
    have Gi : Good arms len lands (fint cells (ts.take i)) := (M.take (m := i)).good G A.take
    obtain ⟨hu1, hu2⟩ := A u (List.mem_of_getElem? hu)
    have Sq1 := sqT_gw g1 Sq
    refine ⟨_, rfl, _, rfl, b', cb', q, arms, len, lands, u.1, u.2, _, rfl, ⟨C1, Gi, Sq1, hu1, hu2⟩, F1.tA, F1.tM, M i u hu, fun H2 p2 g2 e2 => ?_⟩
    have C2 := C1.gw g2
    have Sq2 := sqT_gw g2 Sq1
    have hul : u.2 < (fint cells (ts.take i)).length := by rw [Gi.sz]; exact hu2
    refine ⟨_, rfl, _, _, _, _, rfl, rfl, C2.t, atI_nat (j := 1) rfl, _, rfl, _, _, _, _, rfl, rfl, Sq2, atI_nat (j := 1) rfl, _, _, _, _, rfl, rfl, C2.c, atI_nat (j := u.2) (vN_get (get_at0 hul)), _, rfl, _, _, _, _, rfl, rfl, Sq2, atI_nat (j := 1) rfl, (by show 2 ≤ sizeLine; exact line_le (by decide)), fun p3 hp3 => ?_⟩
    have s3 := same_new (o := .tup [.int (at0 (fint cells (ts.take i)) u.2 : Nat), .int (u.2 : Nat)]) hp3
    refine ⟨_, _, rfl, (alk_two (.inl (.inl (s3 _ _ e2))) (.inl (.inl upd_same)) (alk_int _) (alk_int _)).up.up, fun H4 s4 => ⟨_, rfl, iteF ?_⟩⟩
    have s34 := s3.trans s4
    have g24 := g2.trans (Gw.of s34)
    have C4 := C2.same s34
    have Sq4 := sqT_same s34 Sq2
    refine ⟨_, rfl, _, rfl, b', cb', q, arms, u.1, u.2, _, rfl, C4, Sq4, hul, by rw [Gi.sz]; omega, fun H5 p5 q5 s5 C5 => ?_⟩
    have g5 := g24.trans (Gw.of s5)
    have e5 := g5.keep _ _ e1 (fun ps z => by cases z)
    have r5 := r1.gw g5
    have hyl : ys.length = i + 1 := by rw [r1.length, pth_len, List.length_take]; omega
    refine ⟨_, rfl, .inl ⟨rfl, _, .inl (.inl e5)⟩, _, rfl, _, _, _, rfl, rfl, e5, line_lt (by omega), ?_⟩
    have et2 : ts.take (i + 1) = ts.take i ++ [u] := take_snoc hu
    refine ⟨_, p5, q5, _, rfl, gw_at hpd (g1.trans g5), ?_, upd_same, ?_⟩
    · rw [et2, fint_snoc]
      exact C5.upd e5
    · rw [et2, pth_snoc, fint_snoc]
      exact Chs.upd (paired_app r5 (.cons ⟨p5, q5, rfl, C5⟩ .nil)) e5
  rintro σ H15 ⟨v12, b', cb', ds, rfl, g15, C15, e15, r15⟩
  rw [hzl, List.take_length] at C15 r15
  have F15 := F14.gw g15 n1 n2
  have X15 : RwArgs K H15 a cc t arms len lands cells zs ts := ⟨C14.gw g15, G, sqT_gw g15 (.inl (.inl et)), rt.gw g15, A, by omega⟩
  have hcz : cells.length ≤ 1000 := by rw [G.sz]; omega
  have Gf := M.good G A
  have hfz : (fint cells ts).length ≤ 1000 := by rw [Gf.sz]; omega
  -- done, traced
  refine ⟨_, rfl, _, rfl, a, cc, t, arms, len, lands, cells, zs, ts, rfl, X15, F15.tA, F15.tM, fun H16 b2 cb2 g16 _ C16 => ?_, fun H' d m _ _ hm _ hno => ?_⟩
  rotate_left
  · have e : ts[m]? = some ts[m] := List.getElem?_eq_getElem hm
    exact absurd (M m _ e) (hno _ e)
  have g1416 := g15.trans g16
  refine ⟨_, rfl, _, _, rfl, (alk_ch C16 (Cb.gw g1416) hfz).up, fun H17 s17 => ⟨_, rfl, iteF ?_⟩⟩
  have g1417 := g1416.trans (Gw.of s17)
  have g1517 := g16.trans (Gw.of s17)
  have F17 := F15.gw g1517 n1 n2
  refine ⟨_, rfl, _, rfl, a, cc, t, arms, len, lands, cells, zs, ts, rfl, X15.gw g1517, F17.tA, F17.tM, M, fun H18 p18 ys18 g18 e18 r18 => ?_⟩
  have g1518 := g1517.trans g18
  have ed := g1518.keep _ _ e15 (fun ps z => by cases z)
  have rd := r15.gw g1518
  refine ⟨_, rfl, pd, ds, rfl, .inl ⟨.inl (.inl ed), fun q19 hq19 => ?_⟩⟩
  have s19 := same_new (o := .tup ds) hq19
  refine ⟨_, _, rfl, alk_chs (.inl (.inl (s19 _ _ e18))) (.inl (.inl upd_same)) (r18.gw (PA := PA) (PM := PM) (Gw.of s19)) (rd.gw (PA := PA) (PM := PM) (Gw.of s19)) (by rw [pth_len]; omega) (fun c hc => by rw [pth_size ts cells c hc]; exact hcz), fun H20 s20 => ⟨_, rfl, iteF ?_⟩⟩
  have g20 : Gw PA PM H14 H20 := (g15.trans g1518).trans (Gw.of (s19.trans s20))
  have F20 := F14.gw g20 n1 n2
  have C20 := C14.gw g20
  have S20 := sqT_gw g20 S14
  have T20 : SqT K H20 t zs := sqT_gw g20 (.inl (.inl et))
  have r20 := rt.gw g20
  -- the bent row
  refine ⟨_, rfl, _, rfl, _, _, rfl, .inr T20, _, 1, rfl, rfl, r, sc, ns, zs.length + 1, rfl, F20.R, by omega, by omega, fun at_ H21 hat d21 => ?_⟩
  have k21 := d21.kp F20.R
  have F21 := F20.kp k21 (d21.rw F20.R)
  have C21 := C20.kp k21 F20.R
  have S21 := sqT_kp k21 F20.R S20
  have T21 := sqT_kp k21 F20.R T20
  have r21 := r20.kp k21 F20.R
  have hat2 : at_ ≤ zs.length := by omega
  refine ⟨_, rfl, _, rfl, _, rfl, ?_⟩
  refine slA_of T21 fun q1 H22 s22 S22 => ?_
  refine ⟨_, rfl, (by show 1 ≤ sizeLine; exact line_le (by decide)), fun p1 hp1 => ?_⟩
  have t23 := same_new (o := .tup [V.ref tk]) hp1
  rw [cut_lo hat2] at S22
  refine catA_of (sqT_same t23 S22) (.inl (.inl upd_same)) (line_le (by rw [List.length_take]; show _ + 1 ≤ 1000000; omega)) fun q2 H24 s24 S24 => ?_
  have s21 := (s22.trans t23).trans s24
  refine ⟨_, rfl, _, rfl, _, rfl, ?_⟩
  refine slA_hi (sqT_same s21 T21) fun q3 H25 s25 S25 => ?_
  rw [cut_hi hat2] at S25
  refine catA_of (sqT_same s25 S24) S25 (line_le (by rw [List.length_append, List.length_take, List.length_drop]; show _ + 1 + _ ≤ 1000000; omega)) fun q4 H26 s26 S26 => ?_
  have s2126 := (s21.trans s25).trans s26
  have F26 := F21.same s2126
  have C26 := C21.same s2126
  have r26 : Prs K H26 (zs.take at_ ++ [V.ref tk] ++ zs.drop at_) (ts.take at_ ++ [(l, cl)] ++ ts.drop at_) := by
    have rr := r21.gw (PA := PA) (PM := PM) (Gw.of s2126)
    exact paired_app (paired_app (paired_take at_ rr) (.cons ⟨tk, rfl, sqT_same s2126 S21⟩ .nil)) (paired_drop at_ rr)
  have A26 : InAll lands (arms * len + 1) (ts.take at_ ++ [(l, cl)] ++ ts.drop at_) := fun u hu => by
    rcases List.mem_append.mp hu with z | z
    · rcases List.mem_append.mp z with z | z
      · exact A u (List.mem_of_mem_take z)
      · rw [List.mem_singleton.mp z]; exact ⟨hl, hcl⟩
    · exact A u (List.mem_of_mem_drop z)
  have hbl : (ts.take at_ ++ [(l, cl)] ++ ts.drop at_).length ≤ 40 := by
    rw [List.length_append, List.length_append, List.length_take, List.length_drop, List.length_singleton]
    omega
  generalize ts.take at_ ++ [(l, cl)] ++ ts.drop at_ = bt at r26 A26 hbl
  generalize zs.take at_ ++ [V.ref tk] ++ zs.drop at_ = bxs at S26 r26
  have hbx : bxs.length = bt.length := r26.length
  refine ⟨_, rfl, _, _, rfl, ?_⟩
  refine ⟨_, rfl, _, _, rfl, .inr S26, _, rfl, by omega, by omega, for_range (lo := 0) (n := (bxs.length : Int).toNat) (fun i σ H1 => ∃ (b' cb' : Addr) (bv : V) (m : Nat) (v16 : Option V), σ = [some (.ref sc), some (.ref r), some (.int arms), some (.int len), some (.int lands), some (.ref a), some (.ref ps), some (.ref tk), some (.ref t), some (.ref b), some (.ref b'), some (.ref pd), v12, some (.int at_), some (.ref q4), some bv, v16] ∧
    Same H26 H1 ∧ BadI arms len cells bt i bv m ∧ ChAt K H1 b' cb' arms (fint cells (bt.take m))) ⟨a, cc, .non, 0, none, rfl, Same.refl _, ⟨Nat.le_refl _, by rw [List.take_zero]; exact MadeAll.nil, .inl ⟨rfl, rfl⟩⟩, C26⟩ ?_ ?_⟩
  · rintro i σ H1 hi ⟨b', cb', bv, m, v16, rfl, s1, B, C1⟩
    rw [Int.zero_add]
    have hib : i < bt.length := by omega
    have hu : bt[i]? = some bt[i] := List.getElem?_eq_getElem hib
    generalize bt[i] = u at hu
    obtain ⟨x, hx, q, rfl, Sq⟩ := paired_get r26 hu
    obtain ⟨hu1, hu2⟩ := A26 u (List.mem_of_getElem? hu)
    have S1 := sqT_same s1 S26
    have Sq1 := sqT_same s1 Sq
    rcases B.or with ⟨rfl, rfl⟩ | ⟨rfl, hmi, hno⟩
    · have Gm : Good arms len lands (fint cells (bt.take m)) := B.made.good G A26.take
      refine ⟨_, rfl, rfl, _, rfl, ifT (decide_eq_true rfl) ?_⟩
      refine ⟨_, rfl, _, rfl, _, _, _, _, rfl, rfl, S1, atI_nat (j := m) hx, _, rfl, b', cb', arms, len, lands, _, rfl, C1, Gm, fun H2 p2 xs2 s2 hp2 e2 r2 => ?_⟩
      refine ⟨dP u, _, dp_P (sqT_same s2 Sq1), .lst (.inl (.inl e2)) r2.dp, sh_dP _, sh_dPs _, _, rfl, ?_⟩
      rw [any_dP]
      have C2 := C1.same s2
      have S2 := sqT_same s2 S1
      have Sq2 := sqT_same s2 Sq1
      by_cases hM : Made arms len (fint cells (bt.take m)) u.1 u.2
      · have hin : u ∈ tks arms len lands (fint cells (bt.take m)) := mem_tks.mpr ⟨hu1, hu2, hM⟩
        refine ifF (by rw [decide_eq_true hin]; rfl) ?_
        refine ⟨_, rfl, rfl, _, rfl, ifT (decide_eq_true rfl) ?_⟩
        refine ⟨_, rfl, _, rfl, _, rfl, _, _, _, _, rfl, rfl, S2, atI_nat (j := m) hx, b', cb', q, arms, u.1, u.2, _, rfl, C2, Sq2, by rw [Gm.sz]; exact hu2, by rw [Gm.sz]; omega, fun H3 p3 q3 s3 C3 => ?_⟩
        have et2 : bt.take (m + 1) = bt.take m ++ [u] := take_snoc hu
        refine ⟨p3, q3, .non, m + 1, _, rfl, (s1.trans s2).trans s3, ⟨Nat.le_refl _, by rw [et2]; exact B.made.snoc hM, .inl ⟨rfl, rfl⟩⟩, ?_⟩
        rw [et2, fint_snoc]
        exact C3
      · have hin : u ∉ tks arms len lands (fint cells (bt.take m)) := fun z => hM (mem_tks.mp z).2.2
        refine ifT (by rw [decide_eq_false hin]; rfl) ?_
        refine ⟨_, rfl, _, rfl, rfl, _, rfl, ifF (decide_eq_false (by intro z; cases z)) ?_⟩
        exact ⟨b', cb', .int (m : Nat), m, _, rfl, s1.trans s2, ⟨by omega, B.made, .inr ⟨rfl, by omega, fun t ht => by rw [hu] at ht; cases ht; exact hM⟩⟩, C2⟩
    · refine ⟨_, rfl, rfl, _, rfl, ifF (decide_eq_false (by intro z; cases z)) (iteF ?_)⟩
      refine ⟨_, rfl, rfl, _, rfl, ifF (decide_eq_false (by intro z; cases z)) ?_⟩
      exact ⟨b', cb', .int (m : Nat), m, _, rfl, s1, ⟨by omega, B.made, .inr ⟨rfl, by omega, hno⟩⟩, C1⟩
  rintro σ H27 ⟨b', cb', bv, m, v16, rfl, s27, B, C27⟩
  have en : (bxs.length : Int).toNat = bt.length := by omega
  rw [en] at B
  have F27 := F26.same s27
  refine ⟨F27.tL, fun H28 k28 => ?_⟩
  have C28 := (C26.same s27).but k28 F27.tL
  have S28 := sqT_but k28 F27.tL (sqT_same s27 S26)
  have r28 : Prs K H28 bxs bt := (r26.gw (PA := PA) (PM := PM) (Gw.of s27)).but k28 F27.tL
  have D28 := C27.but k28 F27.tL
  refine ⟨_, rfl, _, rfl, a, cc, q4, arms, len, lands, cells, bxs, bt, rfl, ⟨C28, G, S28, r28, A26, hbl⟩, SK.TabG.but F27.tA k28 (Ne.symm n1), SK.TabG.but F27.tM k28 (Ne.symm n2), fun H29 b2 cb2 g29 hall C29 => ?_, fun H29 d m2 g29 e29 hm2 hM2 hno2 => ⟨rfl, d, .int (m2 : Nat), rfl, e29, fun p hp => ?_⟩⟩
  · rcases B.or with ⟨rfl, rfl⟩ | ⟨rfl, hmi, hno⟩
    · refine ⟨_, rfl, rfl, _, rfl, ifT (decide_eq_true rfl) ?_⟩
      rw [List.take_length] at D28
      have Gf2 := hall.good G A26
      exact ⟨_, rfl, _, _, rfl, (alk_ch C29 (D28.gw g29) (by rw [Gf2.sz]; omega)).up, fun H30 _ => kQ H30⟩
    · have e : bt[m]? = some bt[m] := List.getElem?_eq_getElem hmi
      exact absurd (hall m _ e) (hno _ e)
  · rcases B.or with ⟨rfl, rfl⟩ | ⟨rfl, hmi, hno⟩
    · have hb := B.made
      rw [List.take_length] at hb
      have e : bt[m2]? = some bt[m2] := List.getElem?_eq_getElem hm2
      exact absurd (hb m2 _ e) (hno2 _ e)
    · have e := bad_same B.made hM2 hmi hm2 hno hno2
      subst e
      refine ⟨_, rfl, rfl, _, rfl, ifF (decide_eq_false (by intro z; cases z)) ?_⟩
      refine ⟨_, rfl, (by show 2 ≤ sizeLine; exact line_le (by decide)), fun p2 hp2 => ?_⟩
      have s30 := same_new (o := .tup [V.str "row", V.int (m : Nat)]) hp2
      exact ⟨_, _, rfl, (alk_two (.inl (.inl (s30 _ _ upd_same))) (.inl (.inl upd_same)) (alk_flat (.str _)) (alk_int _)).up.up, fun H30 _ => kQ H30⟩
end
end SK
end

section
/-! The end of the row: the empty tables of all the text's defs told. -/
namespace SK
open PySem PySem.Spec PyProof.Rows L2
theorem walk_ofTabs {l : PySem.W.OpenLaw} {n k : Nat} {q : Program} {loose : List Str} {XP : (Str → Option Value) → Heap → Prop} {YP : World → Heap → Prop} {d : DefRec} {K : Params → PySem.W.Frag} {CX : World → CXT} {x : Str}
    (hn : l.most = some n) (hn2 : n ≤ sizeLine) (hdf : d.params.defaults = []) (hr : Room k callerA) (hY : ∀ (w : World) (h : Heap), YP w h → (K w.params).In h)
    (F : ∀ (w : World) (mg : Str → Option Value) (fa : Addr) (h : Heap), YP w h → (K w.params).In h → h.Ns mainGlobals mg → mg d.name = some (.ref fa) →
      (∀ (nm : Str) (fb : Addr), ((recsOf q).any fun e => e.name == nm) = true → mg nm = some (.ref fb) → LamX.OwnTab (K w.params) fb h) → LamX.LawAtS l w (K w.params) (CX w) k n x mg fa h)
    (hCX : ∀ (w : World) (H : Hp) (s : Shared) (e : Value) (s' : Shared), CX w [] H s (fun _ _ _ => False) e s' → False) :
    PySem.W.WalkO q loose XP YP l.row.toRowW d [] (fun f vs => PySem.call f vs) := by
  refine Att.attach_callB hn hdf fun w s₀ s₁ mg mb fa o pm cd doc a vs ns G Y ho hd hcd hmg hobj hints hlen hbits hg => ?_
  have KX := hY w _ Y
  have own : ∀ (nm : Str) (fb : Addr), ((recsOf q).any fun e => e.name == nm) = true → mg nm = some (.ref fb) → LamX.OwnTab (K w.params) fb s₁.heap := fun nm fb hrec hfb c P o1 fd1 e dd vs1 sl k1 k2 k3 k4 k5 => by
    obtain ⟨dL, hm, hn1⟩ := List.any_eq_true.mp hrec
    have hn2 : dL.name = nm := beq_iff_eq.mp hn1
    obtain ⟨a', o', fd', c', P', h1, h2, h3, h4, h5, h6⟩ := G.T.tab dL hm
    rw [hn2, hfb] at h1
    cases h1
    have g1 := KX _ _ k1
    rw [g1] at h2
    cases h2
    rw [k2] at h3
    cases h3
    rw [k3] at h4
    cases h4
    obtain ⟨⟨oc, vc, e1, _, e3, e4⟩, hP⟩ := h6
    have g2 := KX _ _ k4
    rw [g2] at e1
    cases e1
    cases e3
    rw [k5] at e4
    cases e4
    exact hP
  obtain ⟨fd, cs, sp, hT, nT, C, hb, hsp, hF⟩ := F w mg fa _ Y KX G.T.g hmg own
  exact LamX.law_callTs KX G.T.g G.T.b G.T.builtins G.T.nolimit hg hT nT C G.T.bmain hobj hints (Nat.le_trans hlen hn2) hr hF hb (fun H hH hS => hsp H a ns hlen hbits hH hS) fun H e s' => hCX w H s₁ e s'
end SK
end

section
set_option maxHeartbeats 8000000
/-! All joined. -/
namespace SK
open PySem PySem.Spec PyProof.Rows L2 GxR SKG SKR
/-- a def at its name in the written part -/
structure At (K : PySem.W.Frag) (x : Str) (st : Stmt) (cd : Value) (f : Addr) (fd : FuncData) : Prop where
  a : PySem.W.nsIn K mainGlobals x = some (some (.ref f))
  l : ∃ (oc : Value) (od : Option Addr) (kV doc pm : Value) (an : Option Addr) (ct : Value) (osl : Array (Option Value)), fd = PySem.W.fnOf x x (defArgs st) (defBody st) (defScope st) .none kV doc pm an cd ct ∧ K.lookup f = some ⟨oc, od, .func fd, osl⟩
  c : PySem.W.codeIn K cd x = true
  k : PySem.W.keepIn K (.ref f) = true
theorem at_of {K : PySem.W.Frag} {x : Str} {st : Stmt} {cd : Value} {f : Addr} {oc : Value} {od : Option Addr} {kV doc pm : Value} {an : Option Addr} {ct : Value} {osl : Array (Option Value)} (a : PySem.W.nsIn K mainGlobals x = some (some (.ref f)))
    (l : K.lookup f = some ⟨oc, od, .func (PySem.W.fnOf x x (defArgs st) (defBody st) (defScope st) .none kV doc pm an cd ct), osl⟩) (c : PySem.W.codeIn K cd x = true) (k : PySem.W.keepIn K (.ref f) = true) :
    At K x st cd f (PySem.W.fnOf x x (defArgs st) (defBody st) (defScope st) .none kV doc pm an cd ct) := ⟨a, ⟨oc, od, kV, doc, pm, an, ct, osl, rfl, l⟩, c, k⟩
section
variable {K : PySem.W.Frag} {x : Str} {st : Stmt} {cd : Value} {f c : Addr} {fd : FuncData} {P : Program} {w : World} {mg : Str → Option Value} {base h : Heap} {CX : CXT} {k : Nat} {ps : List Str} {sp : Sp}
theorem At.fn (A : At K x st cd f fd) : Fun K x x st f fd := by
  obtain ⟨oc, od, kV, doc, pm, an, ct, osl, rfl, l⟩ := A.l
  exact fun_mk l A.c A.k
theorem At.fc (A : At K x st (.ref c) f fd) : FunC K x st f fd c := by
  obtain ⟨oc, od, kV, doc, pm, an, ct, osl, rfl, l⟩ := A.l
  exact ⟨oc, od, kV, doc, pm, an, ct, osl, rfl, l, A.c⟩
theorem At.dn (A : At K x st cd f fd) (X : K.In h) (G : h.Ns mainGlobals mg) (hb : ∀ (kV doc pm : Value) (an : Option Addr) (cdv ct : Value) (us : List Value), us.length = ps.length → bindArgs (PySem.W.fnOf x x (defArgs st) (defBody st) (defScope st) .none kV doc pm an cdv ct) ⟨us, []⟩ = pure (ps.zip us))
    (F : FnOk P w K mg base CX k f fd ps sp) : Dn P w K mg base CX k x ps sp := ⟨f, fd, PySem.W.mg_of X G A.a, A.k, A.fn.binds hb, F⟩
/-- its table -/
structure Tb (K : PySem.W.Frag) (h : Heap) (c T : Addr) : Prop where
  e : h.get? T = some { cls := .none, data := .fields #[] }
  n : K.lookup T = none
  C : PySem.W.CodeHd h c T
theorem At.tb {T : Addr} {e : Value} {dd : Option Addr} {vs : Array Value} {sl : Array (Option Value)} (A : At K x st (.ref c) f fd) (X : K.In h) (own : LamX.OwnTab K f h) (t : K.lookup c = some ⟨e, dd, .fields vs, sl⟩) (p : vs[11]? = some (.ref T)) (n : K.lookup T = none) (C : PySem.W.codeHdIn K c T = true) : Tb K h c T := by
  obtain ⟨oc, od, kV, doc, pm, an, ct, osl, rfl, l⟩ := A.l
  exact ⟨own c T _ _ e dd vs sl l rfl rfl t p, n, PySem.W.codeHd_of_K X C⟩
end

theorem all_mk {w : World} {K : PySem.W.Frag} {h : Heap} {mg : Str → Option Value} {fa : Addr} (l : PySem.W.OpenLaw) (X : K.In h) (G : h.Ns mainGlobals mg) (hfa : mg "law" = some (.ref fa))
    {f_isIn f_near f_lenOf f_held f_landsOf f_hangs f_areCells f_isMap f_needMap f_isTaking f_isMade f_needTaking f_canTake f_allTakings f_takings f_taken f_trace f_takenBack f_needRow f_done f_traced f_lTaken f_lPick f_lAlike f_lNear f_lHangs f_lTakings f_lBehind f_lWalk f_lIsland f_lMap f_lTold f_law c_areCells c_isMade c_law PA PM PL CL CB fI : Addr} {v_isIn v_near v_lenOf v_held v_landsOf v_hangs v_isMap v_needMap v_isTaking v_needTaking v_canTake v_allTakings v_takings v_taken v_trace v_takenBack v_needRow v_done v_traced v_lTaken v_lPick v_lAlike v_lNear v_lHangs v_lTakings v_lBehind v_lWalk v_lIsland v_lMap v_lTold vI : Value} {d_isIn d_near d_lenOf d_held d_landsOf d_hangs d_areCells d_isMap d_needMap d_isTaking d_isMade d_needTaking d_canTake d_allTakings d_takings d_taken d_trace d_takenBack d_needRow d_done d_traced d_lTaken d_lPick d_lAlike d_lNear d_lHangs d_lTakings d_lBehind d_lWalk d_lIsland d_lMap d_lTold d_law : FuncData}
    {tla tma tml tmr : Tok} {ocI : Value} {odI : Option Addr} {kVI docI pmI ctI : Value} {anI : Option Addr} {oslI : Array (Option Value)}
    (A_isIn : At K "is_in" sIsIn v_isIn f_isIn d_isIn)
    (A_near : At K "near" sNear v_near f_near d_near)
    (A_lenOf : At K "length_of" sLenOf v_lenOf f_lenOf d_lenOf)
    (A_held : At K "held" sHeld v_held f_held d_held)
    (A_landsOf : At K "lands_of" sLandsOf v_landsOf f_landsOf d_landsOf)
    (A_hangs : At K "hangs" sHangs v_hangs f_hangs d_hangs)
    (A_areCells : At K "are_cells" sAreCells (.ref c_areCells) f_areCells d_areCells)
    (A_isMap : At K "is_map" sIsMap v_isMap f_isMap d_isMap)
    (A_needMap : At K "need_map" sNeedMap v_needMap f_needMap d_needMap)
    (A_isTaking : At K "is_taking" sIsTaking v_isTaking f_isTaking d_isTaking)
    (A_isMade : At K "is_made" sIsMade (.ref c_isMade) f_isMade d_isMade)
    (A_needTaking : At K "need_taking" sNeedTaking v_needTaking f_needTaking d_needTaking)
    (A_canTake : At K "can_take" sCanTake v_canTake f_canTake d_canTake)
    (A_allTakings : At K "all_takings" sAllTakings v_allTakings f_allTakings d_allTakings)
    (A_takings : At K "takings" sTakings v_takings f_takings d_takings)
    (A_taken : At K "taken" sTaken v_taken f_taken d_taken)
    (A_trace : At K "trace" sTrace v_trace f_trace d_trace)
    (A_takenBack : At K "taken_back" sTakenBack v_takenBack f_takenBack d_takenBack)
    (A_needRow : At K "need_row" sNeedRow v_needRow f_needRow d_needRow)
    (A_done : At K "done" sDone v_done f_done d_done)
    (A_traced : At K "traced" sTraced v_traced f_traced d_traced)
    (A_lTaken : At K "_law_taken" sLTaken v_lTaken f_lTaken d_lTaken)
    (A_lPick : At K "_law_pick" sLPick v_lPick f_lPick d_lPick)
    (A_lAlike : At K "_law_alike" sLAlike v_lAlike f_lAlike d_lAlike)
    (A_lNear : At K "_law_near" sLNear v_lNear f_lNear d_lNear)
    (A_lHangs : At K "_law_hangs" sLHangs v_lHangs f_lHangs d_lHangs)
    (A_lTakings : At K "_law_takings" sLTakings v_lTakings f_lTakings d_lTakings)
    (A_lBehind : At K "_law_behind" sLBehind v_lBehind f_lBehind d_lBehind)
    (A_lWalk : At K "_law_walk" sLWalk v_lWalk f_lWalk d_lWalk)
    (A_lIsland : At K "_law_island" sLIsland v_lIsland f_lIsland d_lIsland)
    (A_lMap : At K "_law_map" sLMap v_lMap f_lMap d_lMap)
    (A_lTold : At K "_law_told" sLTold v_lTold f_lTold d_lTold)
    (A_law : At K "law" sLaw (.ref c_law) f_law d_law)
    {R : Str → Bool} (own : ∀ (nm : Str) (fb : Addr), R nm = true → mg nm = some (.ref fb) → LamX.OwnTab K fb h)
    {e_areCells : Value} {dd_areCells : Option Addr} {vs_areCells : Array Value} {sl_areCells : Array (Option Value)} (r_areCells : R "are_cells" = true) (t_areCells : K.lookup c_areCells = some ⟨e_areCells, dd_areCells, .fields vs_areCells, sl_areCells⟩) (p_areCells : vs_areCells[11]? = some (.ref PA)) (n_areCells : K.lookup PA = none) (C_areCells : PySem.W.codeHdIn K c_areCells PA = true)
    {e_isMade : Value} {dd_isMade : Option Addr} {vs_isMade : Array Value} {sl_isMade : Array (Option Value)} (r_isMade : R "is_made" = true) (t_isMade : K.lookup c_isMade = some ⟨e_isMade, dd_isMade, .fields vs_isMade, sl_isMade⟩) (p_isMade : vs_isMade[11]? = some (.ref PM)) (n_isMade : K.lookup PM = none) (C_isMade : PySem.W.codeHdIn K c_isMade PM = true)
    {e_law : Value} {dd_law : Option Addr} {vs_law : Array Value} {sl_law : Array (Option Value)} (r_law : R "law" = true) (t_law : K.lookup c_law = some ⟨e_law, dd_law, .fields vs_law, sl_law⟩) (p_law : vs_law[11]? = some (.ref PL)) (n_law : K.lookup PL = none) (C_law : PySem.W.codeHdIn K c_law PL = true)
    (n1 : PL ≠ PA) (n2 : PL ≠ PM)
    (g_isinstance : PySem.W.nsIn K mainGlobals "isinstance" = some none)
    (g_int : PySem.W.nsIn K mainGlobals "int" = some none)
    (g_bool : PySem.W.nsIn K mainGlobals "bool" = some none)
    (g_tuple : PySem.W.nsIn K mainGlobals "tuple" = some none)
    (g_list : PySem.W.nsIn K mainGlobals "list" = some none)
    (g_str : PySem.W.nsIn K mainGlobals "str" = some none)
    (g_len : PySem.W.nsIn K mainGlobals "len" = some none)
    (g_range : PySem.W.nsIn K mainGlobals "range" = some none)
    (g_max : PySem.W.nsIn K mainGlobals "max" = some none)
    (g_any : PySem.W.nsIn K mainGlobals "any" = some none)
    (g_all : PySem.W.nsIn K mainGlobals "all" = some none)
    (g_enumerate : PySem.W.nsIn K mainGlobals "enumerate" = some none)
    (g_sorted : PySem.W.nsIn K mainGlobals "sorted" = some none)
    (k_la : PySem.W.nsIn K mainGlobals "LEAST_ARMS" = some (some (.int 3 tla))) (k_ma : PySem.W.nsIn K mainGlobals "MOST_ARMS" = some (some (.int 4 tma))) (k_ml : PySem.W.nsIn K mainGlobals "MOST_LENGTH" = some (some (.int 4 tml))) (k_mr : PySem.W.nsIn K mainGlobals "MOST_ROW" = some (some (.int 40 tmr)))
    (m_L : PySem.W.nsIn K mainGlobals "LandError" = some (some (.ref CL))) (m_B : PySem.W.nsIn K mainGlobals "BadRow" = some (some (.ref CB)))
    {nmB qB : Str} {NB : Addr} {bsB bmB : List Value} {snB : List Str} {subB : List Value} {abB : Bool} {colB : Option Bool} {ddB : Option Addr} {k0B k1B k2B k3B k5B : Option Value} (x_B : K.lookup CB = some (PySem.excClassObj nmB qB CB NB bsB bmB true snB subB abB colB ddB k0B k1B k2B k3B k5B "ValueError.__new__")) (x_r : PySem.HandSPX.refsVE bmB = true)
    (x_sa : PySem.W.findIn K (.ref CB) "__setattr__" = some (some (.builtin "object.__setattr__"))) (x_ex : PySem.W.subIn K (.ref CB) (.type "BaseException") = some true) (x_ty : PySem.W.typeIn K (.ref CB) = some (.type "type")) (x_k : PySem.W.keepIn K (.ref CB) = true) (i_B : PySem.W.findIn K (.ref CB) "__init__" = some (some (.ref fI))) (i_t : PySem.W.typeIn K (.ref fI) = some (.type "function")) (no_B : PySem.W.findIn K (.ref CB) "index" = some none)
    (l_I : K.lookup fI = some ⟨ocI, odI, .func (PySem.W.fnOf "__init__" "BadRow.__init__" (defArgs sRowInit) (defBody sRowInit) (defScope sRowInit) .none kVI docI pmI anI vI ctI), oslI⟩) (c_I : PySem.W.codeIn K vI "BadRow.__init__" = true) (k_I : PySem.W.keepIn K (.ref fI) = true)
    (b_L : PySem.W.subIn K (.ref CL) (.type "BaseException") = some true) (h_L : PySem.W.hasDictIn K CL = true) (t_L : PySem.W.typeIn K (.ref CL) = some (.type "type")) (s_B : PySem.W.subIn K (.ref CB) (.ref CL) = some true) (e_B : ExcC K CB) :
    LamX.LawAtS l w K CX0 11 63 "_law_script" mg fa h := by
  have T_areCells := A_areCells.tb X (own _ _ r_areCells (PySem.W.mg_of X G A_areCells.a)) t_areCells p_areCells n_areCells C_areCells
  have T_isMade := A_isMade.tb X (own _ _ r_isMade (PySem.W.mg_of X G A_isMade.a)) t_isMade p_isMade n_isMade C_isMade
  have T_law := A_law.tb X (own _ _ r_law (PySem.W.mg_of X G A_law.a)) t_law p_law n_law C_law
  have efa := hfa.symm.trans (PySem.W.mg_of X G A_law.a)
  cases efa
  have T : Txt mg := ⟨PySem.W.mg_none_of X G g_isinstance, PySem.W.mg_none_of X G g_int, PySem.W.mg_none_of X G g_bool, PySem.W.mg_none_of X G g_tuple, PySem.W.mg_none_of X G g_list, PySem.W.mg_none_of X G g_str, PySem.W.mg_none_of X G g_len, PySem.W.mg_none_of X G g_range, PySem.W.mg_none_of X G g_max, PySem.W.mg_none_of X G g_any, PySem.W.mg_none_of X G g_all, PySem.W.mg_none_of X G g_enumerate, PySem.W.mg_none_of X G g_sorted, ⟨_, PySem.W.mg_of X G k_la⟩, ⟨_, PySem.W.mg_of X G k_ma⟩, ⟨_, PySem.W.mg_of X G k_ml⟩, ⟨_, PySem.W.mg_of X G k_mr⟩⟩
  have hB := PySem.W.mg_of X G m_B
  have hL := PySem.W.mg_of X G m_L
  have RC : RowC K mg CB fI := ⟨⟨⟨nmB, qB, NB, bsB, bmB, snB, subB, abB, colB, ddB, k0B, k1B, k2B, k3B, k5B, x_B, x_r⟩, x_sa, x_ex, x_ty, x_k⟩, i_B, i_t, no_B, hB⟩
  have FI := fun_mk (st := sRowInit) l_I c_I k_I
  have bI := FI.binds (ps := ["self", "index"]) fun _ _ _ _ _ _ us hl => match us, hl with | [_, _], _ => rfl
  have EC : ErrC K mg CL CB := ⟨hL, hB, PySem.W.exm_ref b_L h_L t_L s_B, e_B, by unfold PySem.W.kitOne; rw [if_pos (beq_self_eq_true _)], ⟨e_B.hg, e_B.hk, e_B.hs, e_B.hd⟩, no_B⟩
  refine ⟨d_law, [(c_areCells, PA), (c_isMade, PM), (c_law, PL)], spLaw K PA PM PL, fun p hp => ?_, fun p hp => ?_, fun p hp => ?_, ?_, ?_, ?_⟩
  · simp only [List.mem_cons, List.not_mem_nil, or_false] at hp
    rcases hp with rfl | rfl | rfl
    · exact T_areCells.e
    · exact T_isMade.e
    · exact T_law.e
  · simp only [List.mem_cons, List.not_mem_nil, or_false] at hp
    rcases hp with rfl | rfl | rfl
    · exact T_areCells.n
    · exact T_isMade.n
    · exact T_law.n
  · simp only [List.mem_cons, List.not_mem_nil, or_false] at hp
    rcases hp with rfl | rfl | rfl
    · exact T_areCells.C
    · exact T_isMade.C
    · exact T_law.C
  · intro s u
    obtain ⟨oc, od, kV, doc, pm, an, ct, osl, e, _⟩ := A_law.l
    subst e
    exact .of_eq rfl
  · intro H a ns hl _ hT hS
    refine ⟨a, ns, rfl, hS, hl, ⟨#[], hT (c_areCells, PA) (by simp), True.intro⟩, ⟨#[], hT (c_isMade, PM) (by simp), True.intro⟩, hT (c_law, PL) (by simp), fun _ => rfl⟩
  intro base _ _ hTB
  have TA := hTB (c_areCells, PA) (by simp)
  have TM := hTB (c_isMade, PM) (by simp)
  have TL := hTB (c_law, PL) (by simp)
  have TA' : GxR.TabB base mg c_areCells PA := ⟨TA.code, TA.bm, TA.gP⟩
  have TM' : GxR.TabB base mg c_isMade PM := ⟨TM.code, TM.bm, TM.gP⟩
  have D_isIn : Dn l.prog w K mg base CX0 1 "is_in" ["value", "least", "most"] (spIsIn) := A_isIn.dn X G (fun _ _ _ _ _ _ us hl => match us, hl with | [_, _, _], _ => rfl) (ok_isIn A_isIn.fn T)
  have D_near : Dn l.prog w K mg base CX0 1 "near" ["arms", "length", "cell"] (spNear) := A_near.dn X G (fun _ _ _ _ _ _ us hl => match us, hl with | [_, _, _], _ => rfl) (ok_near A_near.fn T)
  have D_lenOf : Dn l.prog w K mg base CX0 1 "length_of" ["chart"] (spLenOf K) := A_lenOf.dn X G (fun _ _ _ _ _ _ us hl => match us, hl with | [_], _ => rfl) (ok_lenOf A_lenOf.fn T)
  have D_held : Dn l.prog w K mg base CX0 1 "held" ["cells", "land"] (spHeld K) := A_held.dn X G (fun _ _ _ _ _ _ us hl => match us, hl with | [_, _], _ => rfl) (ok_held A_held.fn T)
  have D_landsOf : Dn l.prog w K mg base CX0 1 "lands_of" ["chart"] (spLandsOf K) := A_landsOf.dn X G (fun _ _ _ _ _ _ us hl => match us, hl with | [_], _ => rfl) (ok_landsOf A_landsOf.fn T)
  have D_hangs : Dn l.prog w K mg base CX0 2 "hangs" ["arms", "cells", "some"] (spHangs K) := A_hangs.dn X G (fun _ _ _ _ _ _ us hl => match us, hl with | [_, _, _], _ => rfl) (ok_hangs A_hangs.fn T D_near)
  have D_areCells : Dn l.prog w K mg base CX0 4 "are_cells" ["arms", "cells"] (spAreCells K PA PM) := A_areCells.dn X G (fun _ _ _ _ _ _ us hl => match us, hl with | [_, _], _ => rfl) (ok_areCells A_areCells.fc T TA' D_isIn D_hangs D_held)
  have D_isMap : Dn l.prog w K mg base CX0 5 "is_map" ["value"] (spIsMap K PA PM) := A_isMap.dn X G (fun _ _ _ _ _ _ us hl => match us, hl with | [_], _ => rfl) (ok_isMap A_isMap.fn T D_isIn D_areCells)
  have D_needMap : Dn l.prog w K mg base CX0 6 "need_map" ["chart"] (spNeedMap K PA PM) := A_needMap.dn X G (fun _ _ _ _ _ _ us hl => match us, hl with | [_], _ => rfl) (ok_needMap A_needMap.fn T D_isMap)
  have D_isTaking : Dn l.prog w K mg base CX0 2 "is_taking" ["chart", "value"] (spIsTaking K) := A_isTaking.dn X G (fun _ _ _ _ _ _ us hl => match us, hl with | [_, _], _ => rfl) (ok_isTaking A_isTaking.fn T D_isIn D_landsOf)
  have D_isMade : Dn l.prog w K mg base CX0 3 "is_made" ["chart", "taking"] (spIsMade K PA PM) := A_isMade.dn X G (fun _ _ _ _ _ _ us hl => match us, hl with | [_, _], _ => rfl) (ok_isMade A_isMade.fc T TM' D_near D_lenOf D_hangs D_held)
  have D_needTaking : Dn l.prog w K mg base CX0 7 "need_taking" ["chart", "taking"] (spNeedTaking K PA PM) := A_needTaking.dn X G (fun _ _ _ _ _ _ us hl => match us, hl with | [_, _], _ => rfl) (ok_needTaking A_needTaking.fn D_needMap D_isTaking)
  have D_canTake : Dn l.prog w K mg base CX0 8 "can_take" ["chart", "taking"] (spCanTake K PA PM) := A_canTake.dn X G (fun _ _ _ _ _ _ us hl => match us, hl with | [_, _], _ => rfl) (ok_canTake A_canTake.fn D_needTaking D_isMade)
  have D_allTakings : Dn l.prog w K mg base CX0 4 "all_takings" ["chart"] (spAllTakings K PA PM) := A_allTakings.dn X G (fun _ _ _ _ _ _ us hl => match us, hl with | [_], _ => rfl) (ok_allTakings A_allTakings.fn T D_landsOf D_isMade)
  have D_takings : Dn l.prog w K mg base CX0 7 "takings" ["chart"] (spTakings K PA PM) := A_takings.dn X G (fun _ _ _ _ _ _ us hl => match us, hl with | [_], _ => rfl) (ok_takings A_takings.fn T D_needMap D_allTakings)
  have D_taken : Dn l.prog w K mg base CX0 1 "taken" ["chart", "taking"] (spTaken K) := A_taken.dn X G (fun _ _ _ _ _ _ us hl => match us, hl with | [_, _], _ => rfl) (ok_taken A_taken.fn T)
  have D_trace : Dn l.prog w K mg base CX0 4 "trace" ["chart", "row"] (spTrace K PA PM) := A_trace.dn X G (fun _ _ _ _ _ _ us hl => match us, hl with | [_, _], _ => rfl) (ok_trace A_trace.fn D_isTaking D_isMade D_taken)
  have D_takenBack : Dn l.prog w K mg base CX0 8 "taken_back" ["chart", "taking"] (spTakenBack K PA PM) := A_takenBack.dn X G (fun _ _ _ _ _ _ us hl => match us, hl with | [_, _], _ => rfl) (ok_takenBack A_takenBack.fn D_needTaking D_isMade)
  have D_needRow : Dn l.prog w K mg base (L2.CX l.prog w) 7 "need_row" ["chart", "row"] (spNeedRow K PA PM CB) := A_needRow.dn X G (fun _ _ _ _ _ _ us hl => match us, hl with | [_, _], _ => rfl) (ok_needRow A_needRow.fn T RC FI bI D_needMap D_trace)
  have D_done : Dn l.prog w K mg base (L2.CX l.prog w) 8 "done" ["chart", "row"] (spDone K PA PM CB) := A_done.dn X G (fun _ _ _ _ _ _ us hl => match us, hl with | [_, _], _ => rfl) (ok_done A_done.fn D_needRow D_trace)
  have D_traced : Dn l.prog w K mg base CX0 8 "traced" ["chart", "row"] (spTraced K PA PM) := A_traced.dn X G (fun _ _ _ _ _ _ us hl => match us, hl with | [_, _], _ => rfl) (ok_traced A_traced.fn T D_needRow D_trace)
  have D_lTaken : Dn l.prog w K mg base CX0 1 "_law_taken" ["_law_row", "_law_many"] (spLTaken K) := A_lTaken.dn X G (fun _ _ _ _ _ _ us hl => match us, hl with | [_, _], _ => rfl) (ok_lTaken A_lTaken.fn T)
  have D_lPick : Dn l.prog w K mg base CX0 2 "_law_pick" ["_law_row", "_law_things"] (spLPick K) := A_lPick.dn X G (fun _ _ _ _ _ _ us hl => match us, hl with | [_, _], _ => rfl) (ok_lPick A_lPick.fn T D_lTaken)
  have D_alike0 : Dn l.prog w K mg base CX0 1 "_law_alike" ["_law_found", "_law_due"] (spAlike K 0) := A_lAlike.dn X G (fun _ _ _ _ _ _ us hl => match us, hl with | [_, _], _ => rfl) (ok_lAlike0 A_lAlike.fn T)
  have D_alike1 : Dn l.prog w K mg base CX0 2 "_law_alike" ["_law_found", "_law_due"] (spAlike K 1) := A_lAlike.dn X G (fun _ _ _ _ _ _ us hl => match us, hl with | [_, _], _ => rfl) (ok_lAlikeS A_lAlike.fn T D_alike0)
  have D_alike2 : Dn l.prog w K mg base CX0 3 "_law_alike" ["_law_found", "_law_due"] (spAlike K 2) := A_lAlike.dn X G (fun _ _ _ _ _ _ us hl => match us, hl with | [_, _], _ => rfl) (ok_lAlikeS A_lAlike.fn T D_alike1)
  have D_alike3 : Dn l.prog w K mg base CX0 4 "_law_alike" ["_law_found", "_law_due"] (spAlike K 3) := A_lAlike.dn X G (fun _ _ _ _ _ _ us hl => match us, hl with | [_, _], _ => rfl) (ok_lAlikeS A_lAlike.fn T D_alike2)
  have D_lNear : Dn l.prog w K mg base CX0 1 "_law_near" ["_law_arms", "_law_length", "_law_cell"] (spLNear) := A_lNear.dn X G (fun _ _ _ _ _ _ us hl => match us, hl with | [_, _, _], _ => rfl) (ok_lNear A_lNear.fn T)
  have D_lHangs : Dn l.prog w K mg base CX0 2 "_law_hangs" ["_law_arms", "_law_length", "_law_some"] (spLHangs K) := A_lHangs.dn X G (fun _ _ _ _ _ _ us hl => match us, hl with | [_, _, _], _ => rfl) (ok_lHangs A_lHangs.fn T D_lNear)
  have D_lTakings : Dn l.prog w K mg base CX0 3 "_law_takings" ["_law_chart"] (spLTakings K) := A_lTakings.dn X G (fun _ _ _ _ _ _ us hl => match us, hl with | [_], _ => rfl) (ok_lTakings A_lTakings.fn T D_lNear D_lHangs)
  have D_lBehind : Dn l.prog w K mg base CX0 1 "_law_behind" ["_law_chart", "_law_taking"] (spLBehind K) := A_lBehind.dn X G (fun _ _ _ _ _ _ us hl => match us, hl with | [_, _], _ => rfl) (ok_lBehind A_lBehind.fn T)
  have D_lWalk : Dn l.prog w K mg base CX0 4 "_law_walk" ["_law_row", "_law_chart", "_law_many"] (spLWalk K) := A_lWalk.dn X G (fun _ _ _ _ _ _ us hl => match us, hl with | [_, _, _], _ => rfl) (ok_lWalk A_lWalk.fn T D_lTakings D_lPick D_lBehind)
  have D_lIsland : Dn l.prog w K mg base CX0 2 "_law_island" ["_law_row", "_law_most"] (spLIsland K) := A_lIsland.dn X G (fun _ _ _ _ _ _ us hl => match us, hl with | [_, _], _ => rfl) (ok_lIsland A_lIsland.fn T D_lTaken)
  have D_lMap : Dn l.prog w K mg base CX0 3 "_law_map" ["_law_row", "_law_arms", "_law_length", "_law_lands"] (spLMap K) := A_lMap.dn X G (fun _ _ _ _ _ _ us hl => match us, hl with | [_, _, _, _], _ => rfl) (ok_lMap A_lMap.fn T D_lPick)
  have LD : LawD l.prog w K mg base PA PM CL CB := ⟨D_lTaken, D_alike3, D_lMap, D_lTakings, D_lBehind, D_lWalk, D_lIsland, D_takings, D_canTake, D_takenBack, D_traced, D_done, EC⟩
  exact ok_law A_law.fc T LD A_lTold.fn (PySem.W.mg_of X G A_lTold.a) A_lTold.k (A_lTold.fn.binds (ps := ["_law_work"]) fun _ _ _ _ _ _ us hl => match us, hl with | [_], _ => rfl) TL n1 n2
end SK
end

open PySem PySem.W PyProof.Rows
set_option maxRecDepth 100000 in
set_option maxHeartbeats 0 in
theorem PySem.Challenge.cw_starlands_k02_whole_takings_holds : PySem.Challenge.rw_starlands_k02_whole_takings.Holds := by
  w_on; o_law; k_head; (case hw => w_witness2)
  k_fill
  refine SK.walk_ofTabs (l := PySem.Challenge.rw_starlands_k02_whole_takings) (n := 63) (k := 11) (x := "_law_script") (CX := fun _ => L2.CX0) rfl (by decide) rfl ⟨rfl, by decide, by decide⟩ (fun w h Y => PySem.W.km_in_of Y) ?F ?S
  case S => intro _ _ _ _ _ z; exact z
  case F =>
    intro w mg fa h Y KX G hmg own
    replace hmg : mg ("law" : Str) = some (.ref fa) := hmg
    refine' SK.all_mk _ KX G hmg ?A_isIn ?A_near ?A_lenOf ?A_held ?A_landsOf ?A_hangs ?A_areCells ?A_isMap ?A_needMap ?A_isTaking ?A_isMade ?A_needTaking ?A_canTake ?A_allTakings ?A_takings ?A_taken ?A_trace ?A_takenBack ?A_needRow ?A_done ?A_traced ?A_lTaken ?A_lPick ?A_lAlike ?A_lNear ?A_lHangs ?A_lTakings ?A_lBehind ?A_lWalk ?A_lIsland ?A_lMap ?A_lTold ?A_law own ?r_areCells ?t_areCells ?p_areCells ?n_areCells ?C_areCells ?r_isMade ?t_isMade ?p_isMade ?n_isMade ?C_isMade ?r_law ?t_law ?p_law ?n_law ?C_law ?n1 ?n2 ?g_isinstance ?g_int ?g_bool ?g_tuple ?g_list ?g_str ?g_len ?g_range ?g_max ?g_any ?g_all ?g_enumerate ?g_sorted ?k_la ?k_ma ?k_ml ?k_mr ?m_L ?m_B ?x_B ?x_r ?x_sa ?x_ex ?x_ty ?x_k ?i_B ?i_t ?no_B ?l_I ?c_I ?k_I ?b_L ?h_L ?t_L ?s_B ?e_B
    case A_isIn => refine' SK.at_of ?a ?l ?c ?k; (case a => k_is); (case l => k_is); (case c => k_is); (case k => k_is)
    case A_near => refine' SK.at_of ?a ?l ?c ?k; (case a => k_is); (case l => k_is); (case c => k_is); (case k => k_is)
    case A_lenOf => refine' SK.at_of ?a ?l ?c ?k; (case a => k_is); (case l => k_is); (case c => k_is); (case k => k_is)
    case A_held => refine' SK.at_of ?a ?l ?c ?k; (case a => k_is); (case l => k_is); (case c => k_is); (case k => k_is)
    case A_landsOf => refine' SK.at_of ?a ?l ?c ?k; (case a => k_is); (case l => k_is); (case c => k_is); (case k => k_is)
    case A_hangs => refine' SK.at_of ?a ?l ?c ?k; (case a => k_is); (case l => k_is); (case c => k_is); (case k => k_is)
    case A_areCells => refine' SK.at_of ?a ?l ?c ?k; (case a => k_is); (case l => k_is); (case c => k_is); (case k => k_is)
    case A_isMap => refine' SK.at_of ?a ?l ?c ?k; (case a => k_is); (case l => k_is); (case c => k_is); (case k => k_is)
    case A_needMap => refine' SK.at_of ?a ?l ?c ?k; (case a => k_is); (case l => k_is); (case c => k_is); (case k => k_is)
    case A_isTaking => refine' SK.at_of ?a ?l ?c ?k; (case a => k_is); (case l => k_is); (case c => k_is); (case k => k_is)
    case A_isMade => refine' SK.at_of ?a ?l ?c ?k; (case a => k_is); (case l => k_is); (case c => k_is); (case k => k_is)
    case A_needTaking => refine' SK.at_of ?a ?l ?c ?k; (case a => k_is); (case l => k_is); (case c => k_is); (case k => k_is)
    case A_canTake => refine' SK.at_of ?a ?l ?c ?k; (case a => k_is); (case l => k_is); (case c => k_is); (case k => k_is)
    case A_allTakings => refine' SK.at_of ?a ?l ?c ?k; (case a => k_is); (case l => k_is); (case c => k_is); (case k => k_is)
    case A_takings => refine' SK.at_of ?a ?l ?c ?k; (case a => k_is); (case l => k_is); (case c => k_is); (case k => k_is)
    case A_taken => refine' SK.at_of ?a ?l ?c ?k; (case a => k_is); (case l => k_is); (case c => k_is); (case k => k_is)
    case A_trace => refine' SK.at_of ?a ?l ?c ?k; (case a => k_is); (case l => k_is); (case c => k_is); (case k => k_is)
    case A_takenBack => refine' SK.at_of ?a ?l ?c ?k; (case a => k_is); (case l => k_is); (case c => k_is); (case k => k_is)
    case A_needRow => refine' SK.at_of ?a ?l ?c ?k; (case a => k_is); (case l => k_is); (case c => k_is); (case k => k_is)
    case A_done => refine' SK.at_of ?a ?l ?c ?k; (case a => k_is); (case l => k_is); (case c => k_is); (case k => k_is)
    case A_traced => refine' SK.at_of ?a ?l ?c ?k; (case a => k_is); (case l => k_is); (case c => k_is); (case k => k_is)
    case A_lTaken => refine' SK.at_of ?a ?l ?c ?k; (case a => k_is); (case l => k_is); (case c => k_is); (case k => k_is)
    case A_lPick => refine' SK.at_of ?a ?l ?c ?k; (case a => k_is); (case l => k_is); (case c => k_is); (case k => k_is)
    case A_lAlike => refine' SK.at_of ?a ?l ?c ?k; (case a => k_is); (case l => k_is); (case c => k_is); (case k => k_is)
    case A_lNear => refine' SK.at_of ?a ?l ?c ?k; (case a => k_is); (case l => k_is); (case c => k_is); (case k => k_is)
    case A_lHangs => refine' SK.at_of ?a ?l ?c ?k; (case a => k_is); (case l => k_is); (case c => k_is); (case k => k_is)
    case A_lTakings => refine' SK.at_of ?a ?l ?c ?k; (case a => k_is); (case l => k_is); (case c => k_is); (case k => k_is)
    case A_lBehind => refine' SK.at_of ?a ?l ?c ?k; (case a => k_is); (case l => k_is); (case c => k_is); (case k => k_is)
    case A_lWalk => refine' SK.at_of ?a ?l ?c ?k; (case a => k_is); (case l => k_is); (case c => k_is); (case k => k_is)
    case A_lIsland => refine' SK.at_of ?a ?l ?c ?k; (case a => k_is); (case l => k_is); (case c => k_is); (case k => k_is)
    case A_lMap => refine' SK.at_of ?a ?l ?c ?k; (case a => k_is); (case l => k_is); (case c => k_is); (case k => k_is)
    case A_lTold => refine' SK.at_of ?a ?l ?c ?k; (case a => k_is); (case l => k_is); (case c => k_is); (case k => k_is)
    case A_law => refine' SK.at_of ?a ?l ?c ?k; (case a => k_is); (case l => k_is); (case c => k_is); (case k => k_is)
    case r_areCells => kernel_rfl
    case t_areCells => k_is
    case p_areCells => rfl
    case n_areCells => kernel_rfl
    case C_areCells => kernel_rfl
    case r_isMade => kernel_rfl
    case t_isMade => k_is
    case p_isMade => rfl
    case n_isMade => kernel_rfl
    case C_isMade => kernel_rfl
    case r_law => kernel_rfl
    case t_law => k_is
    case p_law => rfl
    case n_law => kernel_rfl
    case C_law => kernel_rfl
    case n1 => decide
    case n2 => decide
    case g_isinstance => k_is
    case g_int => k_is
    case g_bool => k_is
    case g_tuple => k_is
    case g_list => k_is
    case g_str => k_is
    case g_len => k_is
    case g_range => k_is
    case g_max => k_is
    case g_any => k_is
    case g_all => k_is
    case g_enumerate => k_is
    case g_sorted => k_is
    case k_la => k_is
    case k_ma => k_is
    case k_ml => k_is
    case k_mr => k_is
    case m_L => k_is
    case m_B => k_is
    case x_B => k_is
    case x_r => first | rfl | decide +kernel
    case x_sa => k_is
    case x_ex => k_is
    case x_ty => k_is
    case x_k => k_is
    case i_B => k_is
    case i_t => k_is
    case no_B => k_is
    case l_I => k_is
    case c_I => k_is
    case k_I => k_is
    case b_L => k_is
    case h_L => k_is
    case t_L => k_is
    case s_B => k_is
    case e_B => refine' ⟨?q1, ?q2, ?q3, ?q4, ?q5, ?q6, ?q7, ?q8⟩ <;> k_is
