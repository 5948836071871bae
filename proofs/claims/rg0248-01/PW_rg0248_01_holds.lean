import PyProof.Rows.All
import Wide.All
import OpenK.AllK
import Wide.FinOn
import PySem.Challenge.RW_rg0248_01
set_option Elab.async false
section
open PySem PySem.W PyProof.Rows
local macro_rules
  | `({ scope := $_a, locals := $_b, globals := $_c, cells := $_d, code := $_e, frame := $_f }) => Lean.Macro.throwError "the whole at once"
namespace Mine
set_option maxRecDepth 100000 in
set_option maxHeartbeats 8000000 in
open_top hd for PySem.Challenge.rw_rg0248_01
theorem walk_off : True := by w_top off; trivial
end Mine
end
section
open PySem PyProof.Rows
namespace Mine.Srt
set_option autoImplicit false
def gallop' : Bool → Keyed → Array Keyed → Nat → Nat → Nat → StateT SortSt Sem (Option Nat) := sortPriv% PySem.Builtin.gallop
def mergeLo' : Array Keyed → Array Keyed → StateT SortSt Sem (Array Keyed) := sortPriv% PySem.Builtin.mergeLo
def mergeHi' : Array Keyed → Array Keyed → StateT SortSt Sem (Array Keyed) := sortPriv% PySem.Builtin.mergeHi
def isNum (x : Keyed) : Prop := ∃ n t, x.1 = .int n t
def num (x : Keyed) : Int := numOf x.1
/-- what a gallop asks of an item: it lies ahead of the place sought -/
def ahead (left : Bool) (k x : Int) : Bool := if left then decide (x < k) else !decide (k < x)
section
variable {prog : Program} {w : World} {A : Around} {E : Value → Shared → Prop} {s : Shared}
theorem lt_S {x y : Keyed} {st : SortSt} {Q : Option Bool → SortSt → Prop} (hk : kindOf st = oneType') (hx : isNum x) (hy : isNum y)
    (h : Q (some (decide (num x < num y))) st) : wpS (model prog w) A E s (lt' x y) Q st := by
  obtain ⟨n, t, e1⟩ := hx
  obtain ⟨m, u, e2⟩ := hy
  rw [lt'_eq]
  refine wpS_bind (wpS_get ?_)
  rw [hk, keyLt'_oneType, e1, e2]
  refine wpS_bind (wpS_lift (wpAny_attempt (oneLt_int ⟨rfl, ?_⟩)))
  refine wpS_pure ?_
  have : decide (num x < num y) = decide (n < m) := by unfold num; rw [e1, e2]; rfl
  rw [this] at h
  exact h
theorem elem_S {arr : Array Keyed} {i : Nat} {st : SortSt} {Q : Keyed → SortSt → Prop} (hi : i < arr.size) (h : Q arr[i] st) : wpS (model prog w) A E s (elem' arr i) Q st := by
  rw [elem'_eq, getElem?_pos arr i hi]
  exact wpS_pure h
theorem K_at {arr : Array Keyed} {i : Nat} (hi : i < arr.size) : K arr i = num arr[i] := K_eq hi
theorem ahead_mono {left : Bool} {k x y : Int} (h : x ≤ y) (hy : ahead left k y = true) : ahead left k x = true := by
  unfold ahead at *
  cases left
  · simp only [Bool.false_eq_true, if_false, Bool.not_eq_true', decide_eq_false_iff_not] at *; omega
  · simp only [if_true, decide_eq_true_eq] at *; omega
theorem beyond_S {left : Bool} {key : Keyed} {arr : Array Keyed} {i : Nat} {st : SortSt} {Q : Option Bool → SortSt → Prop}
    (hk : kindOf st = oneType') (hkey : isNum key) (harr : ∀ i (h : i < arr.size), isNum arr[i]) (hi : i < arr.size) (h : Q (some (ahead left (num key) (K arr i))) st) :
    wpS (model prog w) A E s (elem' arr i >>= fun x => if left = true then lt' x key else lt' key x >>= fun r => pure (Option.map (fun x => !x) r)) Q st := by
  refine wpS_bind (elem_S hi ?_)
  rw [K_at hi] at h
  cases left
  · simp only [Bool.false_eq_true, if_false]
    exact wpS_bind (lt_S hk hkey (harr i hi) (wpS_pure h))
  · simp only [if_true]
    exact lt_S hk (harr i hi) hkey h
theorem bin_S {f : Nat → Option (Option Nat) × Nat × Nat → StateT SortSt Sem (ForInStep (Option (Option Nat) × Nat × Nat))} {p : Nat → Bool} {n lo hi : Nat} {st : SortSt} {Q : Option (Option Nat) × Nat × Nat → SortSt → Prop}
    (hlh : lo ≤ hi) (hhn : hi ≤ n) (hlo : ∀ i, i < lo → p i = true) (hhi : ∀ i, hi ≤ i → i < n → p i = false)
    (mono : ∀ i j, i ≤ j → j < n → p j = true → p i = true)
    (hdone : ∀ x l h, l ≥ h → f x (none, l, h) = pure (.done (none, l, h)))
    (hstep : ∀ x l h (Q' : ForInStep (Option (Option Nat) × Nat × Nat) → SortSt → Prop), l < h → h ≤ n → Q' (if p (l + (h - l) / 2) = true then .yield (none, l + (h - l) / 2 + 1, h) else .yield (none, l, l + (h - l) / 2)) st → wpS (model prog w) A E s (f x (none, l, h)) Q' st)
    (h : ∀ l r, r ≤ n → (∀ i, i < r → p i = true) → (∀ i, r ≤ i → i < n → p i = false) → Q (none, l, r) st) :
    wpS (model prog w) A E s (forIn [:n] (none, lo, hi) f) Q st := by
  refine wpS_forRange (I := fun x c st' => st' = st ∧ ∃ l r, c = (none, l, r) ∧ l ≤ r ∧ r ≤ n ∧ r - l ≤ n - x ∧ (∀ i, i < l → p i = true) ∧ (∀ i, r ≤ i → i < n → p i = false)) ?step ?fin ⟨rfl, lo, hi, rfl, hlh, hhn, by omega, hlo, hhi⟩
  case fin =>
    rintro c st' ⟨rfl, l, r, rfl, h1, h2, h3, h4, h5⟩
    have : l = r := by omega
    subst this
    exact h l l h2 h4 h5
  case step =>
    rintro x c st' _ hx ⟨rfl, l, r, rfl, h1, h2, h3, h4, h5⟩
    by_cases hge : l ≥ r
    · rw [hdone x l r hge]
      have : l = r := by omega
      subst this
      exact wpS_pure (h l l h2 h4 h5)
    · refine hstep x l r _ (by omega) h2 ?_
      by_cases hm : p (l + (r - l) / 2) = true
      · rw [if_pos hm]
        exact ⟨rfl, _, _, rfl, by omega, h2, by omega, fun i hi => mono i _ (by omega) (by omega) hm, h5⟩
      · rw [if_neg hm]
        refine ⟨rfl, _, _, rfl, by omega, by omega, by omega, h4, fun i h6 h7 => ?_⟩
        cases hq : p i with
        | false => rfl
        | true => exact absurd (mono _ i h6 h7 hq) hm
theorem gallop_S {left : Bool} {key : Keyed} {arr : Array Keyed} {base n hint : Nat} {st : SortSt} {Q : Option Nat → SortSt → Prop}
    (hk : kindOf st = oneType') (hkey : isNum key) (harr : ∀ i (h : i < arr.size), isNum arr[i]) (hn : base + n ≤ arr.size) (hh : hint < n)
    (hs : ∀ i j, base ≤ i → i ≤ j → j < base + n → K arr i ≤ K arr j)
    (h : ∀ r, r ≤ n → (∀ i, i < r → ahead left (num key) (K arr (base + i)) = true) → (∀ i, r ≤ i → i < n → ahead left (num key) (K arr (base + i)) = false) → Q (some r) st) :
    wpS (model prog w) A E s (gallop' left key arr base n hint) Q st := by
  unfold gallop'
  have mono : ∀ i j, i ≤ j → j < n → ahead left (num key) (K arr (base + j)) = true → ahead left (num key) (K arr (base + i)) = true :=
    fun i j hij hj hp => ahead_mono (hs _ _ (by omega) (by omega) (by omega)) hp
  have monoF : ∀ i j, i ≤ j → j < n → ahead left (num key) (K arr (base + i)) = false → ahead left (num key) (K arr (base + j)) = false := by
    intro i j hij hj hp
    cases hq : ahead left (num key) (K arr (base + j)) with
    | false => rfl
    | true => rw [mono i j hij hj hq] at hp; cases hp
  refine wpS_bind (beyond_S hk hkey harr (i := base + hint) (by omega) ?_)
  dsimp only
  by_cases hr : ahead left (num key) (K arr (base + hint)) = true
  · rw [if_pos hr]
    refine wpS_bind (wpS_mono (wpS_forRange (I := fun x c st' => st' = st ∧ ∃ l o, c = (none, l, o) ∧ l < o ∧ x < o ∧ hint + l < n ∧ ahead left (num key) (K arr (base + (hint + l))) = true)
      (Q := fun c st' => st' = st ∧ ∃ l o, c = (none, l, o) ∧ l < o ∧ hint + l < n ∧ ahead left (num key) (K arr (base + (hint + l))) = true ∧ (hint + o < n → ahead left (num key) (K arr (base + (hint + o))) = false)) ?step ?fin ?init) ?post)
    case init => exact ⟨rfl, 0, 1, rfl, by omega, by omega, by omega, hr⟩
    case fin =>
      rintro c st' ⟨rfl, l, o, rfl, h1, h2, h3, h4⟩
      exact ⟨rfl, l, o, rfl, h1, h3, h4, fun h5 => by omega⟩
    case step =>
      rintro x c st' _ hx ⟨rfl, l, o, rfl, h1, h2, h3, h4⟩
      dsimp only
      by_cases hge : o ≥ n - hint
      · rw [if_pos hge]
        exact wpS_pure ⟨rfl, l, o, rfl, h1, h3, h4, fun h5 => by omega⟩
      · rw [if_neg hge]
        refine wpS_bind (beyond_S hk hkey harr (i := base + (hint + o)) (by omega) ?_)
        dsimp only
        cases hm : ahead left (num key) (K arr (base + (hint + o))) with
        | false =>
          simp only [Bool.not_false, if_true]
          exact wpS_pure ⟨rfl, l, o, rfl, h1, h3, h4, fun _ => hm⟩
        | true =>
          simp only [Bool.not_true, Bool.false_eq_true, if_false]
          exact wpS_pure ⟨rfl, o, 2 * o + 1, rfl, by omega, by omega, by omega, hm⟩
    case post =>
      rintro c st' ⟨rfl, l, o, rfl, h1, h3, h4, h5⟩
      dsimp only
      refine wpS_bind (bin_S (p := fun i => ahead left (num key) (K arr (base + i))) (by omega) (by omega) (fun i hi => mono i _ (by omega) h3 h4) (fun i hi hin => ?_) mono ?_ ?_ ?_)
      · have h6 : hint + o < n := by omega
        exact monoF _ i (by omega) hin (h5 h6)
      · intro x l' h' hge
        exact if_pos hge
      · intro x l' h' Q' hlt hhn hQ
        dsimp only at hQ ⊢
        rw [if_neg (by omega)]
        refine wpS_bind (beyond_S hk hkey harr (i := base + (l' + (h' - l') / 2)) (by omega) ?_)
        dsimp only
        split
        · rename_i hm; rw [if_pos hm] at hQ; exact wpS_pure hQ
        · rename_i hm; rw [if_neg hm] at hQ; exact wpS_pure hQ
      · intro l' r hrn h6 h7
        exact wpS_pure (h r hrn h6 h7)
  · have hrF : ahead left (num key) (K arr (base + hint)) = false := by simpa using hr
    rw [if_neg hr]
    refine wpS_bind (wpS_mono (wpS_forRange (I := fun x c st' => st' = st ∧ ∃ l o, c = (none, l, o) ∧ l < o ∧ x < o ∧ l ≤ hint ∧ ahead left (num key) (K arr (base + (hint - l))) = false)
      (Q := fun c st' => st' = st ∧ ∃ l o, c = (none, l, o) ∧ l < o ∧ l ≤ hint ∧ ahead left (num key) (K arr (base + (hint - l))) = false ∧ (o ≤ hint → ahead left (num key) (K arr (base + (hint - o))) = true)) ?step ?fin ?init) ?post)
    case init => exact ⟨rfl, 0, 1, rfl, by omega, by omega, by omega, hrF⟩
    case fin =>
      rintro c st' ⟨rfl, l, o, rfl, h1, h2, h3, h4⟩
      exact ⟨rfl, l, o, rfl, h1, h3, h4, fun h5 => by omega⟩
    case step =>
      rintro x c st' _ hx ⟨rfl, l, o, rfl, h1, h2, h3, h4⟩
      dsimp only
      by_cases hge : o ≥ hint + 1
      · rw [if_pos hge]
        exact wpS_pure ⟨rfl, l, o, rfl, h1, h3, h4, fun h5 => by omega⟩
      · rw [if_neg hge]
        refine wpS_bind (beyond_S hk hkey harr (i := base + (hint - o)) (by omega) ?_)
        dsimp only
        cases hm : ahead left (num key) (K arr (base + (hint - o))) with
        | true =>
          simp only [if_true]
          exact wpS_pure ⟨rfl, l, o, rfl, h1, h3, h4, fun _ => hm⟩
        | false =>
          simp only [Bool.false_eq_true, if_false]
          exact wpS_pure ⟨rfl, o, 2 * o + 1, rfl, by omega, by omega, by omega, hm⟩
    case post =>
      rintro c st' ⟨rfl, l, o, rfl, h1, h3, h4, h5⟩
      dsimp only
      refine wpS_bind (bin_S (p := fun i => ahead left (num key) (K arr (base + i))) (by omega) (by omega) (fun i hi => ?_) (fun i hi hin => monoF _ i (by omega) hin h4) mono ?_ ?_ ?_)
      · have h6 : o ≤ hint := by omega
        exact mono i _ (by omega) (by omega) (h5 h6)
      · intro x l' h' hge
        exact if_pos hge
      · intro x l' h' Q' hlt hhn hQ
        dsimp only at hQ ⊢
        rw [if_neg (by omega)]
        refine wpS_bind (beyond_S hk hkey harr (i := base + (l' + (h' - l') / 2)) (by omega) ?_)
        dsimp only
        split
        · rename_i hm; rw [if_pos hm] at hQ; exact wpS_pure hQ
        · rename_i hm; rw [if_neg hm] at hQ; exact wpS_pure hQ
      · intro l' r hrn h6 h7
        exact wpS_pure (h r hrn h6 h7)
end
end Mine.Srt
end
section
open PySem PyProof.Rows
namespace Mine.Srt
local macro_rules | `(tactic| omega) => `(tactic| grind -splitMatch -splitIte -splitIndPred (splits := 2) (ematch := 0))
set_option autoImplicit false
def SL (l : List Keyed) : Prop := l.Pairwise fun x y => num x ≤ num y
structure Same (st st' : SortSt) : Prop where
  kind : kindOf st' = kindOf st
  arr : arrOf st' = arrOf st
  pend : pendingOf st' = pendingOf st
  failed : failedOf st' = failedOf st
theorem Same.rfl' {st : SortSt} : Same st st := ⟨rfl, rfl, rfl, rfl⟩
theorem Same.trans {a b c : SortSt} (h : Same a b) (k : Same b c) : Same a c := ⟨k.kind.trans h.kind, k.arr.trans h.arr, k.pend.trans h.pend, k.failed.trans h.failed⟩
/-- a merge from the left: what is out, what is left of the two runs -/
structure MI (t out ra rb : List Keyed) : Prop where
  so : SL out
  sa : SL ra
  sb : SL rb
  perm : (out ++ (ra ++ rb)).Perm t
  le : ∀ x ∈ out, ∀ y ∈ ra ++ rb, num x ≤ num y
theorem MI.left {t out p ra rb : List Keyed} (h : MI t out (p ++ ra) rb) (hp : ∀ x ∈ p, ∀ y ∈ rb, num x ≤ num y) : MI t (out ++ p) ra rb := by
  obtain ⟨h1, h2, h3, h4, h5⟩ := h
  obtain ⟨a1, a2, a3⟩ := List.pairwise_append.mp h2
  refine ⟨List.pairwise_append.mpr ⟨h1, a1, fun x hx y hy => h5 x hx y (by simp [hy])⟩, a2, h3, ?_, ?_⟩
  · simpa [List.append_assoc] using h4
  · intro x hx y hy
    rcases List.mem_append.mp hx with hx | hx
    · refine h5 x hx y ?_
      rcases List.mem_append.mp hy with hy | hy
      · simp [hy]
      · simp [hy]
    · rcases List.mem_append.mp hy with hy | hy
      · exact a3 x hx y hy
      · exact hp x hx y hy
theorem MI.right {t out p ra rb : List Keyed} (h : MI t out ra (p ++ rb)) (hp : ∀ x ∈ p, ∀ y ∈ ra, num x ≤ num y) : MI t (out ++ p) ra rb := by
  obtain ⟨h1, h2, h3, h4, h5⟩ := h
  obtain ⟨a1, a2, a3⟩ := List.pairwise_append.mp h3
  refine ⟨List.pairwise_append.mpr ⟨h1, a1, fun x hx y hy => h5 x hx y (by simp [hy])⟩, h2, a2, ?_, ?_⟩
  · refine List.Perm.trans ?_ h4
    rw [List.append_assoc]
    refine List.Perm.append_left _ ?_
    rw [← List.append_assoc, ← List.append_assoc]
    exact List.Perm.append_right _ List.perm_append_comm
  · intro x hx y hy
    rcases List.mem_append.mp hx with hx | hx
    · refine h5 x hx y ?_
      rcases List.mem_append.mp hy with hy | hy
      · simp [hy]
      · simp [hy]
    · rcases List.mem_append.mp hy with hy | hy
      · exact hp x hx y hy
      · exact a3 x hx y hy
theorem MI.swapped {t out ra rb : List Keyed} (h : MI t out ra rb) (hp : ∀ x ∈ rb, ∀ y ∈ ra, num x ≤ num y) : (out ++ rb ++ ra).Perm t ∧ SL (out ++ rb ++ ra) := by
  have h' : MI t (out ++ rb) ra [] := MI.right (p := rb) (by simpa using h) hp
  have h'' : MI t (out ++ rb ++ ra) [] [] := MI.left (p := ra) (by simpa using h') (by simp)
  exact ⟨by simpa using h''.perm, h''.so⟩
theorem MI.plain {t out ra rb : List Keyed} (h : MI t out ra rb) (hp : ∀ x ∈ ra, ∀ y ∈ rb, num x ≤ num y) : (out ++ ra ++ rb).Perm t ∧ SL (out ++ ra ++ rb) := by
  have h' : MI t (out ++ ra) [] rb := MI.left (p := ra) (by simpa using h) hp
  have h'' : MI t (out ++ ra ++ rb) [] [] := MI.right (p := rb) (by simpa using h') (by simp)
  exact ⟨by simpa using h''.perm, h''.so⟩
/-- the items from a place on -/
abbrev rest (a : Array Keyed) (i : Nat) : List Keyed := a.toList.drop i
theorem rest_cons {a : Array Keyed} {i : Nat} (h : i < a.size) : rest a i = a[i] :: rest a (i + 1) := by
  unfold rest
  rw [List.drop_eq_getElem_cons (by simpa using h)]
  simp
theorem rest_block {a : Array Keyed} {i k : Nat} : rest a i = (a.extract i (i + k)).toList ++ rest a (i + k) := by
  unfold rest
  rw [Array.toList_extract, List.extract_eq_take_drop, Nat.add_sub_cancel_left, ← List.drop_drop, List.take_append_drop]
theorem rest_all {a : Array Keyed} {i : Nat} : (a.extract i a.size).toList = rest a i := by
  unfold rest
  rw [Array.toList_extract, List.extract_eq_take_drop]
  exact List.take_of_length_le (by simp)
theorem ext0 {out a : Array Keyed} {i : Nat} : out ++ a.extract i (i + 0) = out := by
  have e : a.extract i (i + 0) = #[] := by
    apply Array.eq_empty_of_size_eq_zero
    rw [Array.size_extract]
    omega
  rw [e, Array.append_empty]
theorem rest_end {a : Array Keyed} : rest a a.size = [] := by simp [rest]
theorem mem_rest {a : Array Keyed} {i : Nat} {x : Keyed} (h : x ∈ rest a i) : ∃ j, i ≤ j ∧ ∃ hj : j < a.size, x = a[j] := by
  obtain ⟨k, hk, e⟩ := List.getElem_of_mem h
  have hk' : i + k < a.size := by simp [rest] at hk; omega
  refine ⟨i + k, Nat.le_add_right _ _, hk', ?_⟩
  rw [← e]
  simp [rest]
theorem mem_block {a : Array Keyed} {i k : Nat} {x : Keyed} (h : x ∈ (a.extract i (i + k)).toList) : ∃ j, j < k ∧ ∃ hj : i + j < a.size, x = a[i + j] := by
  obtain ⟨j, hj, e⟩ := List.getElem_of_mem h
  have hj' : j < (a.extract i (i + k)).size := by rw [← Array.length_toList]; exact hj
  rw [Array.size_extract] at hj'
  refine ⟨j, by omega, by omega, ?_⟩
  rw [← e]
  simp
theorem sl_of {a : Array Keyed} (h : SortedTo a a.size) : SL a.toList := by
  unfold SL
  rw [List.pairwise_iff_getElem]
  intro i j hi hj hij
  have h1 := h i j (Nat.le_of_lt hij) (by simpa using hj)
  rw [K_at (by simpa using hi), K_at (by simpa using hj)] at h1
  simpa using h1
theorem of_sl {a : Array Keyed} (h : SL a.toList) : SortedTo a a.size := by
  intro i j hij hj
  rcases Nat.lt_or_ge i j with hlt | hge
  · have h1 := List.pairwise_iff_getElem.mp h i j (by simp; omega) (by simpa using hj) hlt
    rw [K_at (by omega), K_at hj]
    simpa using h1
  · have : i = j := by omega
    subst this; exact Int.le_refl _
theorem sl_rest {a : Array Keyed} {i : Nat} (h : SL a.toList) : SL (rest a i) := List.Pairwise.sublist (List.drop_sublist _ _) h
/-- every item from a place on is at least the item there -/
theorem rest_ge {a : Array Keyed} (h : SortedTo a a.size) {i : Nat} {x : Keyed} (hx : x ∈ rest a i) : K a i ≤ num x := by
  obtain ⟨j, hij, hj, rfl⟩ := mem_rest hx
  rw [← K_at hj]
  exact h i j hij hj
section
variable {prog : Program} {w : World} {A : Around} {E : Value → Shared → Prop} {s : Shared}
def setMinGallop' : Nat → StateT SortSt Sem Unit := sortPriv% PySem.Builtin.setMinGallop
theorem setMinGallop_S {g : Nat} {st : SortSt} {Q : Unit → SortSt → Prop} (h : ∀ st', Same st st' → Q () st') : wpS (model prog w) A E s (setMinGallop' g) Q st := by
  unfold setMinGallop'
  exact wpS_modify (h _ ⟨rfl, rfl, rfl, rfl⟩)
theorem wpS_fn1 {M : Model} {β γ : Type} {J : Unit → γ → StateT SortSt Sem β} {X : StateT SortSt Sem β} {Q : β → SortSt → Prop} {st : SortSt} (P : γ → SortSt → Prop) (k : ∀ z st', P z st' → wpS M A E s (J () z) Q st')
    (h : (∀ z st', P z st' → wpS M A E s (J () z) Q st') → wpS M A E s X Q st) : wpS M A E s X Q st := h k
theorem wpS_fn2 {M : Model} {β γ δ : Type} {J : Unit → γ → δ → StateT SortSt Sem β} {X : StateT SortSt Sem β} {Q : β → SortSt → Prop} {st : SortSt} (P : γ → δ → SortSt → Prop) (k : ∀ y z st', P y z st' → wpS M A E s (J () y z) Q st')
    (h : (∀ y z st', P y z st' → wpS M A E s (J () y z) Q st') → wpS M A E s X Q st) : wpS M A E s X Q st := h k
theorem wpS_ite {M : Model} {β : Type} {c : Prop} [Decidable c] {X Y : StateT SortSt Sem β} {Q : β → SortSt → Prop} {st : SortSt} (hx : c → wpS M A E s X Q st) (hy : ¬c → wpS M A E s Y Q st) : wpS M A E s (if c then X else Y) Q st := by
  by_cases h : c
  · rw [if_pos h]; exact hx h
  · rw [if_neg h]; exact hy h
theorem use4 {T α β γ δ : Type} {f : α → β → γ → δ → T} {P : α → β → γ → δ → Prop} {G : T → Prop} (k : ∀ x y z t, P x y z t → G (f x y z t)) : ∀ c, (∃ x y z t, c = f x y z t ∧ P x y z t) → G c := by
  intro c h
  obtain ⟨_, _, _, _, rfl, h⟩ := h
  exact k _ _ _ _ h
theorem use5 {T α β γ δ ε : Type} {f : α → β → γ → δ → ε → T} {P : α → β → γ → δ → ε → Prop} {G : T → Prop} (k : ∀ x y z t u, P x y z t u → G (f x y z t u)) : ∀ c, (∃ x y z t u, c = f x y z t u ∧ P x y z t u) → G c := by
  intro c h
  obtain ⟨_, _, _, _, _, rfl, h⟩ := h
  exact k _ _ _ _ _ h
theorem use6 {T α β γ δ ε ζ : Type} {f : α → β → γ → δ → ε → ζ → T} {P : α → β → γ → δ → ε → ζ → Prop} {G : T → Prop} (k : ∀ x y z t u v, P x y z t u v → G (f x y z t u v)) : ∀ c, (∃ x y z t u v, c = f x y z t u v ∧ P x y z t u v) → G c := by
  intro c h
  obtain ⟨_, _, _, _, _, _, rfl, h⟩ := h
  exact k _ _ _ _ _ _ h
theorem useS {R T : Type} {P : R → Prop} {G : Option R × T → Prop} (k : ∀ r t, P r → G (some r, t)) : ∀ c, (∃ r, c.1 = some r ∧ P r) → G c := by
  intro c h
  obtain ⟨c1, c2⟩ := c
  obtain ⟨r, e, h⟩ := h
  cases e
  exact k _ _ h
structure LoI (a b : Array Keyed) (st st' : SortSt) (lo : Nat) (out : Array Keyed) (ia ib : Nat) : Prop where
  hs : Same st st'
  m : MI (a.toList ++ b.toList) out.toList (rest a ia) (rest b ib)
  la : ia + 1 < a.size
  lb : ib < b.size
  le : lo ≤ ia + ib
theorem mergeLo_S {a b : Array Keyed} {st : SortSt} {Q : Array Keyed → SortSt → Prop} (hk : kindOf st = oneType') (ha : ∀ i (h : i < a.size), isNum a[i]) (hb : ∀ i (h : i < b.size), isNum b[i])
    (hsa : SortedTo a a.size) (hsb : SortedTo b b.size) (hna : 0 < a.size) (hnb : 0 < b.size) (hfirst : K b 0 ≤ K a 0) (hlast : ∀ i, i < b.size → K b i ≤ K a (a.size - 1))
    (h : ∀ r st', Same st st' → r.toList.Perm (a.toList ++ b.toList) → SL r.toList → Q r st') : wpS (model prog w) A E s (mergeLo' a b) Q st := by
  have la := sl_of hsa
  have lb := sl_of hsb
  -- the ends
  have fin : ∀ (out : Array Keyed) (ia ib : Nat) (st' : SortSt), Same st st' → MI (a.toList ++ b.toList) out.toList (rest a ia) (rest b ib) → ib = b.size → Q (out ++ a.extract ia ++ b.extract ib) st' := by
    intro out ia ib st' hs hm e
    subst e
    have := hm.plain (by rw [rest_end]; simp)
    exact h _ st' hs (by rw [Array.toList_append, Array.toList_append, rest_all, rest_all]; exact this.1) (by rw [Array.toList_append, Array.toList_append, rest_all, rest_all]; exact this.2)
  have finA : ∀ (out : Array Keyed) (ia ib : Nat) (st' : SortSt), Same st st' → MI (a.toList ++ b.toList) out.toList (rest a ia) (rest b ib) → ia = a.size → Q (out ++ a.extract ia ++ b.extract ib) st' := by
    intro out ia ib st' hs hm e
    subst e
    have := hm.plain (by rw [rest_end]; simp)
    exact h _ st' hs (by rw [Array.toList_append, Array.toList_append, rest_all, rest_all]; exact this.1) (by rw [Array.toList_append, Array.toList_append, rest_all, rest_all]; exact this.2)
  have finL : ∀ (out : Array Keyed) (ia ib : Nat) (st' : SortSt), Same st st' → MI (a.toList ++ b.toList) out.toList (rest a ia) (rest b ib) → ia + 1 = a.size → Q (out ++ b.extract ib ++ a.extract ia) st' := by
    intro out ia ib st' hs hm e
    have := hm.swapped (fun x hx y hy => by
      obtain ⟨j, _, hj, rfl⟩ := mem_rest hx
      have h1 := hlast j hj
      have h2 := rest_ge hsa hy
      rw [show ia = a.size - 1 by omega] at h2
      rw [K_at hj] at h1
      exact Int.le_trans h1 h2)
    exact h _ st' hs (by rw [Array.toList_append, Array.toList_append, rest_all, rest_all]; exact this.1) (by rw [Array.toList_append, Array.toList_append, rest_all, rest_all]; exact this.2)
  unfold mergeLo'
  refine wpS_bind (wpS_lift (wpAny_rule ⟨rfl, ?_⟩))
  try dsimp -zeta only
  refine wpS_bind (elem_S hnb ?_)
  try dsimp -zeta only
  extract_lets -underBinder -merge o1 o2 o3
  dsimp -zeta only [o1, o2, o3]
  have m0 : MI (a.toList ++ b.toList) ([] : List Keyed) (rest a 0) (rest b 0) := ⟨List.Pairwise.nil, sl_rest la, sl_rest lb, by simp [rest], by simp⟩
  have m1 : MI (a.toList ++ b.toList) (#[b[0]] : Array Keyed).toList (rest a 0) (rest b 1) := by
    rw [rest_cons hnb] at m0
    have := MI.right (p := [b[0]]) (ra := rest a 0) (rb := rest b 1) (by simpa using m0) (by
      intro x hx y hy
      rw [List.mem_singleton.mp hx]
      have := rest_ge hsa hy
      rw [K_at hnb] at hfirst
      exact Int.le_trans hfirst this)
    simpa using this
  refine wpS_ite (fun h1 => wpS_pure (fin _ _ _ _ Same.rfl' m1 (beq_iff_eq.mp h1))) (fun h1 => ?_)
  refine wpS_ite (fun h2 => wpS_pure (finL _ _ _ _ Same.rfl' m1 (beq_iff_eq.mp h2))) (fun h2 => ?_)
  have h1' : b.size ≠ 1 := fun e => h1 (by simp [e])
  have h2' : a.size ≠ 1 := fun e => h2 (by simp [e])
  refine wpS_bind (wpS_get ?_)
  try dsimp -zeta only
  extract_lets -underBinder -merge mg
  refine wpS_bind (wpS_mono (wpS_forRange (I := fun x c st' => ∃ out ia ib g, c = (none, out, ia, ib, g) ∧ LoI a b st st' x out ia ib)
    (Q := fun c st' => ∃ r, c.1 = some r ∧ Q r st') ?step ?fin ?init) ?post)
  case init => exact ⟨_, 0, 1, _, rfl, Same.rfl', m1, by omega, by omega, by omega⟩
  case fin =>
    rintro c st' ⟨out, ia, ib, g, _, _, _, h3, h4, h5⟩
    omega
  case post =>
    intro c st' hI
    revert c
    refine useS ?_
    intro r t hq
    exact wpS_pure hq
  case step =>
    intro x c st1 _ hx hI
    revert c
    refine use4 ?_
    intro out ia ib g hI
    try dsimp -zeta only
    extract_lets -underBinder -merge z1 z2 z3 z4 z5 z6 z7 z8 z9
    dsimp -zeta only [z1, z2, z3, z4, z5, z6, z7, z8, z9]
    refine wpS_bind (wpS_mono (wpS_forRange (I := fun y c st' => ∃ out' ia' ib' ac bc, c = (none, out', ia', ib', ac, bc) ∧ LoI a b st st' (y + ia + ib) out' ia' ib')
      (Q := fun c st' => (∃ r, c.1 = some r ∧ Q r st') ∨ ∃ out' ia' ib' ac bc, c = (none, out', ia', ib', ac, bc) ∧ LoI a b st st' (1 + ia + ib) out' ia' ib') ?step2 ?fin2 ?init2) ?post2)
    case init2 => exact ⟨out, ia, ib, 0, 0, rfl, hI.hs, hI.m, hI.la, hI.lb, by omega⟩
    case fin2 =>
      rintro c st' ⟨out', ia', ib', ac, bc, e, hI⟩
      exact .inr ⟨_, _, _, _, _, e, hI.hs, hI.m, hI.la, hI.lb, by have := hI.le; omega⟩
    case step2 =>
      clear hI
      intro y c st2 _ hy hI
      revert c
      refine use5 ?_
      intro out' ia' ib' ac bc hI
      dsimp only
      have hs := hI.hs
      have hm' := hI.m
      have h6 := hI.la
      have h7 := hI.lb
      have h8 := hI.le
      clear hI
      have hk2 : kindOf st2 = oneType' := hs.kind.trans hk
      have hia : ia' < a.size := by omega
      refine wpS_bind (elem_S h7 (wpS_bind (elem_S hia (wpS_bind (lt_S hk2 (hb _ h7) (ha _ hia) ?_)))))
      dsimp only
      refine wpS_ite (fun hlt => ?_) (fun hlt => ?_)
      · replace hlt : num b[ib'] < num a[ia'] := of_decide_eq_true hlt
        refine wpS_bind (elem_S h7 ?_)
        have hm2 : MI (a.toList ++ b.toList) (out'.push b[ib']).toList (rest a ia') (rest b (ib' + 1)) := by
          rw [rest_cons h7] at hm'
          have := MI.right (p := [b[ib']]) (rb := rest b (ib' + 1)) (by simpa using hm') (fun x hx y hy => by
            rw [List.mem_singleton.mp hx]
            have := rest_ge hsa hy
            rw [K_at hia] at this
            omega)
          simpa using this
        refine wpS_ite (fun he => ?_) (fun he => ?_)
        · exact wpS_pure (.inl ⟨_, rfl, fin _ _ _ _ hs hm2 (beq_iff_eq.mp he)⟩)
        · have he' : ib' + 1 ≠ b.size := fun e => he (beq_iff_eq.mpr e)
          clear he hlt hm'
          refine wpS_ite (fun _ => ?_) (fun _ => ?_)
          · exact wpS_pure (.inr ⟨_, _, _, _, _, rfl, hs, hm2, h6, by omega, by omega⟩)
          · exact wpS_pure ⟨_, _, _, _, _, rfl, hs, hm2, h6, by omega, by omega⟩
      · replace hlt : ¬ num b[ib'] < num a[ia'] := fun e => hlt (decide_eq_true e)
        refine wpS_bind (elem_S hia ?_)
        have hm2 : MI (a.toList ++ b.toList) (out'.push a[ia']).toList (rest a (ia' + 1)) (rest b ib') := by
          rw [rest_cons hia] at hm'
          have := MI.left (p := [a[ia']]) (ra := rest a (ia' + 1)) (by simpa using hm') (fun x hx y hy => by
            rw [List.mem_singleton.mp hx]
            have := rest_ge hsb hy
            rw [K_at h7] at this
            omega)
          simpa using this
        refine wpS_ite (fun he => ?_) (fun he => ?_)
        · exact wpS_pure (.inl ⟨_, rfl, finL _ _ _ _ hs hm2 (beq_iff_eq.mp he)⟩)
        · have he' : ia' + 1 + 1 ≠ a.size := fun e => he (beq_iff_eq.mpr e)
          clear he hlt hm'
          refine wpS_ite (fun _ => ?_) (fun _ => ?_)
          · exact wpS_pure (.inr ⟨_, _, _, _, _, rfl, hs, hm2, by omega, h7, by omega⟩)
          · exact wpS_pure ⟨_, _, _, _, _, rfl, hs, hm2, by omega, h7, by omega⟩
    case post2 =>
      have hx0 := hI.le
      clear hI
      intro c st2 hI
      refine hI.elim ?_ ?_ <;> clear hI <;> revert c
      · refine useS ?_
        intro r t hq
        exact wpS_pure ⟨_, rfl, hq⟩
      · refine use5 ?_
        intro out' ia' ib' ac bc hI2
        try dsimp -zeta only
        extract_lets -underBinder -merge z1 z2 z3 z4 z5 z6 z7 z8 z9
        dsimp -zeta only [z1, z2, z3, z4, z5, z6, z7, z8, z9]
        refine wpS_bind (wpS_lift (wpAny_rule ⟨rfl, ?_⟩))
        extract_lets -underBinder -merge m1
        refine wpS_bind (wpS_mono (wpS_forRange (I := fun y c st' => ∃ out' ia' ib' g ac bc, c = (none, out', ia', ib', g, ac, bc) ∧ LoI a b st st' (1 + ia + ib) out' ia' ib')
          (Q := fun c st' => (∃ r, c.1 = some r ∧ Q r st') ∨ ∃ out' ia' ib' g ac bc, c = (none, out', ia', ib', g, ac, bc) ∧ LoI a b st st' (1 + ia + ib) out' ia' ib') ?step3 ?fin3 ⟨out', ia', ib', _, ac, bc, rfl, hI2⟩) ?post3)
        case fin3 =>
          intro c st' hI
          exact .inr hI
        case post3 =>
          clear hI2
          intro c st3 hI
          refine hI.elim ?_ ?_ <;> clear hI <;> revert c
          · refine useS ?_
            intro r t hq
            exact wpS_pure ⟨_, rfl, hq⟩
          · refine use6 ?_
            intro out' ia' ib' g ac bc hI
            dsimp only
            exact wpS_bind (setMinGallop_S fun st4 hs4 => wpS_pure ⟨_, _, _, _, rfl, hI.hs.trans hs4, hI.m, hI.la, hI.lb, by have := hI.le; omega⟩)
        case step3 =>
          clear hI2
          intro y c st3 _ hy hI
          revert c
          refine use6 ?_
          intro out' ia' ib' g ac bc hI
          have hs3 := hI.hs
          have hm' := hI.m
          have h6 := hI.la
          have h7 := hI.lb
          have h8 := hI.le
          clear hI
          try dsimp -zeta only
          extract_lets -underBinder -merge z1 z2 z3 z4 z5 z6 z7 z8 z9 za zb jp
          refine wpS_fn1 (J := jp) (fun _ st' => Same st st') ?jk ?jh
          case jh =>
            intro hjp
            clear_value jp
            dsimp -zeta only [z1, z2, z3, z4, z5, z6, z7, z8, z9]
            exact wpS_ite (fun _ => hjp _ _ hs3) (fun _ => hjp _ _ hs3)
          case jk =>
            clear hs3
            intro g0 st3' hs3
            dsimp -zeta only [jp, z1, z2, z3, z4, z5, z6, z7, z8, z9, za, zb]
            refine wpS_bind (setMinGallop_S fun st4 hs4 => ?_)
            have hs5 := hs3.trans hs4
            have hk4 : kindOf st4 = oneType' := hs5.kind.trans hk
            refine wpS_bind (elem_S h7 (wpS_bind (gallop_S hk4 (hb _ h7) ha (by omega) (by omega) (fun i j h1 h2 h3 => hsa i j h2 (by omega)) fun k hk1 hk2 hk3 => ?_)))
            try dsimp -zeta only
            extract_lets -underBinder -merge y1 jp
            refine wpS_fn2 (J := jp) (fun out2 ia2 st' => Same st st' ∧ MI (a.toList ++ b.toList) out2.toList (rest a ia2) (rest b ib') ∧ (∀ j, ia2 ≤ j → j < a.size → num b[ib'] < K a j) ∧ ia2 + 1 < a.size ∧ ia' ≤ ia2) ?jk2 ?jh2
            case jh2 =>
              intro hjp
              clear_value jp
              try dsimp -zeta only
              have hafter : ∀ j, ia' + k ≤ j → j < a.size → num b[ib'] < K a j := by
                intro j h1 h2
                have q1 := hk3 (j - ia') (by omega) (by omega)
                rw [show ia' + (j - ia') = j by omega] at q1
                simpa [ahead] using q1
              refine wpS_ite (fun hk0 => ?_) (fun hk0 => ?_)
              · have hm2 : MI (a.toList ++ b.toList) (out' ++ a.extract ia' (ia' + k)).toList (rest a (ia' + k)) (rest b ib') := by
                  rw [rest_block (k := k)] at hm'
                  rw [Array.toList_append]
                  refine MI.left hm' fun x hx y hy => ?_
                  obtain ⟨j, hj, hj', rfl⟩ := mem_block hx
                  have q1 := hk2 j hj
                  have q2 := rest_ge hsb hy
                  rw [K_at hj'] at q1
                  rw [K_at h7] at q2
                  simp only [ahead, Bool.false_eq_true, if_false, Bool.not_eq_true', decide_eq_false_iff_not] at q1
                  omega
                try dsimp only
                refine wpS_ite (fun e1 => wpS_pure (.inl ⟨_, rfl, finL _ _ _ _ hs5 hm2 (beq_iff_eq.mp e1)⟩)) (fun e1 => ?_)
                refine wpS_ite (fun e2 => wpS_pure (.inl ⟨_, rfl, finA _ _ _ _ hs5 hm2 (beq_iff_eq.mp e2)⟩)) (fun e2 => ?_)
                have e3 : ia' + k + 1 < a.size := by
                  have e1' : ia' + k + 1 ≠ a.size := fun e => e1 (beq_iff_eq.mpr e)
                  have e2' : ia' + k ≠ a.size := fun e => e2 (beq_iff_eq.mpr e)
                  clear e1 e2 hafter
                  omega
                exact hjp _ _ _ ⟨hs5, hm2, hafter, e3, Nat.le_add_right _ _⟩
              · have hk0' : k = 0 := Nat.eq_zero_of_not_pos hk0
                exact hjp _ _ _ ⟨hs5, hm', fun j h1 h2 => hafter j (hk0' ▸ h1) h2, h6, Nat.le_refl _⟩
            case jk2 =>
              clear hs3 hs4 hs5 hk4 hm' hk1 hk2 hk3
              rintro out2 ia2 st5 ⟨hs5, hm2, hafter, e3, hle⟩
              have hk4 : kindOf st5 = oneType' := hs5.kind.trans hk
              dsimp -zeta only [jp, y1]
              refine wpS_bind (elem_S h7 ?_)
              extract_lets -underBinder -merge x1 x2
              dsimp -zeta only [x1, x2]
              have hm3 : MI (a.toList ++ b.toList) (out2.push b[ib']).toList (rest a ia2) (rest b (ib' + 1)) := by
                rw [rest_cons h7] at hm2
                have := MI.right (p := [b[ib']]) (rb := rest b (ib' + 1)) (by simpa using hm2) (fun x hx y hy => by
                  rw [List.mem_singleton.mp hx]
                  obtain ⟨j, hj, hj', rfl⟩ := mem_rest hy
                  have := hafter j hj hj'
                  rw [K_at hj'] at this
                  omega)
                simpa using this
              refine wpS_ite (fun e4 => wpS_pure (.inl ⟨_, rfl, fin _ _ _ _ hs5 hm3 (beq_iff_eq.mp e4)⟩)) (fun e4 => ?_)
              have e4' : ib' + 1 < b.size := Nat.lt_of_le_of_ne h7 fun e => e4 (beq_iff_eq.mpr e)
              have hia2 : ia2 < a.size := by omega
              refine wpS_bind (elem_S hia2 (wpS_bind (gallop_S hk4 (ha _ hia2) hb (by omega) (by omega) (fun i j h1 h2 h3 => hsb i j h2 (by omega)) fun k' hk1 hk2 hk3 => ?_)))
              try dsimp -zeta only
              extract_lets -underBinder -merge y2 jp3
              refine wpS_fn2 (J := jp3) (fun out3 ib2 st' => Same st st' ∧ MI (a.toList ++ b.toList) out3.toList (rest a ia2) (rest b ib2) ∧ (∀ j, ib2 ≤ j → j < b.size → num a[ia2] ≤ K b j) ∧ ib2 < b.size ∧ ib' + 1 ≤ ib2) ?jk3 ?jh3
              case jh3 =>
                intro hjp
                clear_value jp3
                try dsimp -zeta only
                have hafter2 : ∀ j, ib' + 1 + k' ≤ j → j < b.size → num a[ia2] ≤ K b j := by
                  intro j h1 h2
                  have q1 := hk3 (j - (ib' + 1)) (by omega) (by omega)
                  rw [show ib' + 1 + (j - (ib' + 1)) = j by omega] at q1
                  simpa [ahead] using q1
                refine wpS_ite (fun hk0 => ?_) (fun hk0 => ?_)
                · have hm4 : MI (a.toList ++ b.toList) (out2.push b[ib'] ++ b.extract (ib' + 1) (ib' + 1 + k')).toList (rest a ia2) (rest b (ib' + 1 + k')) := by
                    rw [rest_block (a := b) (k := k')] at hm3
                    rw [Array.toList_append]
                    refine MI.right hm3 fun x hx y hy => ?_
                    obtain ⟨j, hj, hj', rfl⟩ := mem_block hx
                    have q1 := hk2 j hj
                    have q2 := rest_ge hsa hy
                    rw [K_at hj'] at q1
                    rw [K_at hia2] at q2
                    simp only [ahead, if_true, decide_eq_true_eq] at q1
                    omega
                  try dsimp only
                  refine wpS_ite (fun e5 => wpS_pure (.inl ⟨_, rfl, fin _ _ _ _ hs5 hm4 (beq_iff_eq.mp e5)⟩)) (fun e5 => ?_)
                  have e6 : ib' + 1 + k' < b.size := by
                    have : ib' + 1 + k' ≠ b.size := fun e => e5 (beq_iff_eq.mpr e)
                    clear e5 hafter2
                    omega
                  exact hjp _ _ _ ⟨hs5, hm4, hafter2, e6, Nat.le_add_right _ _⟩
                · have hk0' : k' = 0 := Nat.eq_zero_of_not_pos hk0
                  exact hjp _ _ _ ⟨hs5, hm3, fun j h1 h2 => hafter2 j (hk0' ▸ h1) h2, e4', Nat.le_refl _⟩
              case jk3 =>
                clear hs5 hm2 hm3 hk4 hk1 hk2 hk3 e4
                rintro out3 ib2 st6 ⟨hs5, hm4, hafter2, e6, hle2⟩
                dsimp only [jp3, y2]
                refine wpS_bind (elem_S hia2 ?_)
                try dsimp only
                have hm5 := hm4
                rw [rest_cons hia2] at hm5
                have hm6 := MI.left (out := out3.toList) (p := [a[ia2]]) (ra := rest a (ia2 + 1)) hm5 (fun x hx y hy => by
                  rw [List.mem_singleton.mp hx]
                  obtain ⟨j, hj, hj', rfl⟩ := mem_rest hy
                  have := hafter2 j hj hj'
                  rw [K_at hj'] at this
                  exact this)
                rw [← Array.toList_push] at hm6
                refine wpS_ite (fun e7 => wpS_pure (.inl ⟨_, rfl, finL _ _ _ _ hs5 hm6 (beq_iff_eq.mp e7)⟩)) (fun e7 => ?_)
                have e8 : ia2 + 1 + 1 < a.size := Nat.lt_of_le_of_ne e3 fun e => e7 (beq_iff_eq.mpr e)
                have e9 : 1 + ia + ib ≤ ia2 + 1 + ib2 := by
                  clear hafter2 hm4 hm5 hm6 e7
                  omega
                exact wpS_ite (fun _ => wpS_pure (.inr ⟨_, _, _, _, _, _, rfl, hs5, hm6, e8, e6, e9⟩)) (fun _ => wpS_pure ⟨_, _, _, _, _, _, rfl, hs5, hm6, e8, e6, e9⟩)
end
end Mine.Srt
end
section
open PySem PyProof.Rows
namespace Mine.Srt
local macro_rules | `(tactic| omega) => `(tactic| grind -splitMatch -splitIte -splitIndPred (splits := 2) (ematch := 0))
set_option autoImplicit false
/-- a merge from the right: what is left of the two runs, what is out -/
structure MR (t la lb o : List Keyed) : Prop where
  so : SL o
  sa : SL la
  sb : SL lb
  perm : (la ++ lb ++ o).Perm t
  le : ∀ x ∈ la ++ lb, ∀ y ∈ o, num x ≤ num y
theorem MR.left {t la p lb o : List Keyed} (h : MR t (la ++ p) lb o) (hp : ∀ x ∈ lb, ∀ y ∈ p, num x ≤ num y) : MR t la lb (p ++ o) := by
  obtain ⟨h1, h2, h3, h4, h5⟩ := h
  obtain ⟨a1, a2, a3⟩ := List.pairwise_append.mp h2
  refine ⟨List.pairwise_append.mpr ⟨a2, h1, fun x hx y hy => h5 x (by simp [hx]) y hy⟩, a1, h3, ?_, ?_⟩
  · refine List.Perm.trans ?_ h4
    simp only [List.append_assoc]
    refine List.Perm.append_left _ ?_
    rw [← List.append_assoc, ← List.append_assoc]
    exact List.Perm.append_right _ List.perm_append_comm
  · intro x hx y hy
    rcases List.mem_append.mp hy with hy | hy
    · rcases List.mem_append.mp hx with hx | hx
      · exact a3 x hx y hy
      · exact hp x hx y hy
    · refine h5 x ?_ y hy
      rcases List.mem_append.mp hx with hx | hx
      · simp [hx]
      · simp [hx]
theorem MR.right {t la p lb o : List Keyed} (h : MR t la (lb ++ p) o) (hp : ∀ x ∈ la, ∀ y ∈ p, num x ≤ num y) : MR t la lb (p ++ o) := by
  obtain ⟨h1, h2, h3, h4, h5⟩ := h
  obtain ⟨a1, a2, a3⟩ := List.pairwise_append.mp h3
  refine ⟨List.pairwise_append.mpr ⟨a2, h1, fun x hx y hy => h5 x (by simp [hx]) y hy⟩, h2, a1, ?_, ?_⟩
  · simpa only [List.append_assoc] using h4
  · intro x hx y hy
    rcases List.mem_append.mp hy with hy | hy
    · rcases List.mem_append.mp hx with hx | hx
      · exact hp x hx y hy
      · exact a3 x hx y hy
    · refine h5 x ?_ y hy
      rcases List.mem_append.mp hx with hx | hx
      · simp [hx]
      · simp [hx]
theorem MR.plain {t la lb o : List Keyed} (h : MR t la lb o) (hp : ∀ x ∈ la, ∀ y ∈ lb, num x ≤ num y) : (la ++ lb ++ o).Perm t ∧ SL (la ++ lb ++ o) := by
  have h' : MR t la [] (lb ++ o) := MR.right (lb := []) (p := lb) (by simpa using h) hp
  have h'' : MR t [] [] (la ++ (lb ++ o)) := MR.left (la := []) (p := la) (by simpa using h') (by simp)
  exact ⟨by simpa using h''.perm, by simpa using h''.so⟩
theorem MR.swapped {t la lb o : List Keyed} (h : MR t la lb o) (hp : ∀ x ∈ lb, ∀ y ∈ la, num x ≤ num y) : (lb ++ la ++ o).Perm t ∧ SL (lb ++ la ++ o) := by
  have h' : MR t [] lb (la ++ o) := MR.left (la := []) (p := la) (by simpa using h) hp
  have h'' : MR t [] [] (lb ++ (la ++ o)) := MR.right (lb := []) (p := lb) (by simpa using h') (by simp)
  exact ⟨by simpa using h''.perm, by simpa using h''.so⟩
/-- the items ahead of a place -/
abbrev front (a : Array Keyed) (n : Nat) : List Keyed := a.toList.take n
theorem front_snoc {a : Array Keyed} {n : Nat} (h : n < a.size) : front a (n + 1) = front a n ++ [a[n]] := by
  unfold front
  rw [List.take_add_one]
  simp [h]
theorem front_block {a : Array Keyed} {i n : Nat} (h : i ≤ n) : front a n = front a i ++ (a.extract i n).toList := by
  unfold front
  rw [Array.toList_extract, List.extract_eq_take_drop]
  have : n = i + (n - i) := by omega
  rw [this, List.take_add, Nat.add_sub_cancel_left]
theorem front_all {a : Array Keyed} {n : Nat} : (a.extract 0 n).toList = front a n := by
  rw [Array.toList_extract, List.extract_eq_take_drop]
  simp [front]
structure Box (P : Prop) : Prop where
  out : P
theorem cutT {T P : Prop} (h : Box T → P) (k : T) : P := h ⟨k⟩
theorem front_zero {a : Array Keyed} : front a 0 = [] := by simp [front]
theorem front_size {a : Array Keyed} : front a a.size = a.toList := by
  unfold front
  exact List.take_of_length_le (by simp)
theorem mem_front {a : Array Keyed} {n : Nat} {x : Keyed} (h : x ∈ front a n) : ∃ j, j < n ∧ ∃ hj : j < a.size, x = a[j] := by
  obtain ⟨k, hk, e⟩ := List.getElem_of_mem h
  have hk' : k < n ∧ k < a.size := by simp [front] at hk; omega
  refine ⟨k, hk'.1, hk'.2, ?_⟩
  rw [← e]
  simp [front]
theorem mem_extract {a : Array Keyed} {i n : Nat} {x : Keyed} (h : x ∈ (a.extract i n).toList) : ∃ j, i ≤ j ∧ j < n ∧ ∃ hj : j < a.size, x = a[j] := by
  obtain ⟨j, hj, e⟩ := List.getElem_of_mem h
  have hj' : j < (a.extract i n).size := by rw [← Array.length_toList]; exact hj
  rw [Array.size_extract] at hj'
  refine ⟨i + j, by omega, by omega, by omega, ?_⟩
  rw [← e]
  simp
theorem sl_front {a : Array Keyed} {i : Nat} (h : SL a.toList) : SL (front a i) := List.Pairwise.sublist (List.take_sublist _ _) h
theorem rev_push {out : Array Keyed} {x : Keyed} : (out.push x).toList.reverse = [x] ++ out.toList.reverse := by simp
theorem rev_block {out p : Array Keyed} : (out ++ p.reverse).toList.reverse = p.toList ++ out.toList.reverse := by simp
section
variable {prog : Program} {w : World} {A : Around} {E : Value → Shared → Prop} {s : Shared}
structure HiI (a b : Array Keyed) (st st' : SortSt) (hi d : Nat) (na nb : Nat) (out : Array Keyed) : Prop where
  hs : Same st st'
  m : MR (a.toList ++ b.toList) (front a na) (front b nb) out.toList.reverse
  la : 1 ≤ na
  la' : na ≤ a.size
  lb : 2 ≤ nb
  lb' : nb ≤ b.size
  le : d + na + nb ≤ hi
theorem mergeHi_S {a b : Array Keyed} {st : SortSt} {Q : Array Keyed → SortSt → Prop} (hk : kindOf st = oneType') (ha : ∀ i (h : i < a.size), isNum a[i]) (hb : ∀ i (h : i < b.size), isNum b[i])
    (hsa : SortedTo a a.size) (hsb : SortedTo b b.size) (hna : 0 < a.size) (hnb : 0 < b.size) (hfirst : K b 0 ≤ K a 0) (hlast : ∀ i, i < b.size → K b i ≤ K a (a.size - 1))
    (h : ∀ r st', Same st st' → r.toList.Perm (a.toList ++ b.toList) → SL r.toList → Q r st') : wpS (model prog w) A E s (mergeHi' a b) Q st := by
  have la := sl_of hsa
  have lb := sl_of hsb
  have fin : ∀ (out : Array Keyed) (na nb : Nat) (st' : SortSt), Same st st' → MR (a.toList ++ b.toList) (front a na) (front b nb) out.toList.reverse → na = 0 ∨ nb = 0 → Q (a.extract 0 na ++ b.extract 0 nb ++ out.reverse) st' := by
    intro out na nb st' hs hm e
    have := hm.plain (by rcases e with rfl | rfl <;> rw [front_zero] <;> simp)
    exact h _ st' hs (by rw [Array.toList_append, Array.toList_append, front_all, front_all, Array.toList_reverse]; exact this.1) (by rw [Array.toList_append, Array.toList_append, front_all, front_all, Array.toList_reverse]; exact this.2)
  have finF : ∀ (out : Array Keyed) (na nb : Nat) (st' : SortSt), Same st st' → MR (a.toList ++ b.toList) (front a na) (front b nb) out.toList.reverse → nb = 1 → Q (b.extract 0 nb ++ a.extract 0 na ++ out.reverse) st' := by
    intro out na nb st' hs hm e
    subst e
    have := hm.swapped (fun x hx y hy => by
      obtain ⟨j, hj1, hj, rfl⟩ := mem_front hx
      obtain ⟨i, hi1, hi, rfl⟩ := mem_front hy
      have q : j = 0 := by omega
      subst q
      have h1 := hsa 0 i (Nat.zero_le _) hi
      rw [K_at hi] at h1
      rw [K_at hj] at hfirst
      omega)
    exact h _ st' hs (by rw [Array.toList_append, Array.toList_append, front_all, front_all, Array.toList_reverse]; exact this.1) (by rw [Array.toList_append, Array.toList_append, front_all, front_all, Array.toList_reverse]; exact this.2)
  unfold mergeHi'
  refine wpS_bind (wpS_lift (wpAny_rule ⟨rfl, ?_⟩))
  have hla : a.size - 1 < a.size := by omega
  refine wpS_bind (elem_S hla ?_)
  have m0 : MR (a.toList ++ b.toList) (front a (a.size - 1 + 1)) (front b b.size) ([] : List Keyed) := by
    rw [show a.size - 1 + 1 = a.size by omega, front_size, front_size]
    exact ⟨List.Pairwise.nil, la, lb, by simp, by simp⟩
  have m1 : MR (a.toList ++ b.toList) (front a (a.size - 1)) (front b b.size) (#[a[a.size - 1]] : Array Keyed).toList.reverse := by
    rw [front_snoc hla] at m0
    have := MR.left m0 (by
      intro x hx y hy
      rw [List.mem_singleton.mp hy]
      obtain ⟨j, hj1, hj, rfl⟩ := mem_front hx
      have := hlast j hj
      rw [K_at hj, K_at hla] at this
      exact this)
    simpa using this
  extract_lets -underBinder -merge o1
  dsimp -zeta only [o1]
  try clear o1
  refine wpS_ite (fun h1 => wpS_pure (fin _ _ _ _ Same.rfl' m1 (.inl (beq_iff_eq.mp h1)))) (fun h1 => ?_)
  refine wpS_ite (fun h2 => wpS_pure (finF _ _ _ _ Same.rfl' m1 (beq_iff_eq.mp h2))) (fun h2 => ?_)
  have h1' : a.size - 1 ≠ 0 := fun e => h1 (beq_iff_eq.mpr e)
  have h2' : b.size ≠ 1 := fun e => h2 (beq_iff_eq.mpr e)
  refine wpS_bind (wpS_get ?_)
  try dsimp -zeta only
  extract_lets -underBinder -merge mg
  refine wpS_bind (wpS_mono (wpS_forRange (I := fun x c st' => ∃ na nb out g, c = (none, na, nb, out, g) ∧ HiI a b st st' (a.size + b.size) x na nb out)
    (Q := fun c st' => ∃ r, c.1 = some r ∧ Q r st') ?step ?fin ?init) ?post)
  case init => exact ⟨_, _, _, _, rfl, Same.rfl', m1, by omega, by omega, by omega, by omega, by omega⟩
  case fin =>
    rintro c st' ⟨na, nb, out, g, _, _, _, h3, h4, h5, h6, h7⟩
    omega
  case post =>
    intro c st' hI
    revert c
    refine useS ?_
    intro r t hq
    exact wpS_pure hq
  case step =>
    intro x c st1 _ hx hI
    revert c
    refine use4 ?_
    intro na nb out g hI
    try dsimp -zeta only
    extract_lets -underBinder -merge z1 z2 z3 z4 z5 z6 z7 z8 z9
    dsimp -zeta only [z1, z2, z3, z4, z5, z6, z7, z8, z9]
    refine wpS_bind (wpS_mono (wpS_forRange (I := fun y c st' => ∃ na' nb' out' ac bc, c = (none, na', nb', out', ac, bc) ∧ HiI a b st st' (na + nb) y na' nb' out')
      (Q := fun c st' => (∃ r, c.1 = some r ∧ Q r st') ∨ ∃ na' nb' out' ac bc, c = (none, na', nb', out', ac, bc) ∧ HiI a b st st' (na + nb) 1 na' nb' out') ?step2 ?fin2 ?init2) ?post2)
    case init2 => exact ⟨na, nb, out, 0, 0, rfl, hI.hs, hI.m, hI.la, hI.la', hI.lb, hI.lb', by omega⟩
    case fin2 =>
      rintro c st' ⟨na', nb', out', ac, bc, e, hI⟩
      exact .inr ⟨_, _, _, _, _, e, hI.hs, hI.m, hI.la, hI.la', hI.lb, hI.lb', by have := hI.le; omega⟩
    case step2 =>
      clear hI
      intro y c st2 _ hy hI
      revert c
      refine use5 ?_
      intro na' nb' out' ac bc hI
      dsimp only
      have hs := hI.hs
      have hm' := hI.m
      have q1 := hI.la
      have q2 := hI.la'
      have q3 := hI.lb
      have q4 := hI.lb'
      have q5 := hI.le
      clear hI
      have hk2 : kindOf st2 = oneType' := hs.kind.trans hk
      generalize em : na' - 1 = m
      generalize en : nb' - 1 = n
      have em' : na' = m + 1 := by rw [← em]; exact (Nat.sub_add_cancel q1).symm
      have en' : nb' = n + 1 := by rw [← en]; exact (Nat.sub_add_cancel (Nat.le_of_succ_le q3)).symm
      clear em en
      rw [em'] at hm' q1 q2 q5
      rw [en'] at hm' q3 q4 q5
      have hia : m < a.size := q2
      have hib : n < b.size := q4
      refine wpS_bind (elem_S hib (wpS_bind (elem_S hia (wpS_bind (lt_S hk2 (hb _ hib) (ha _ hia) ?_)))))
      dsimp only
      refine wpS_ite (fun hlt => ?_) (fun hlt => ?_)
      · replace hlt : num b[n] < num a[m] := of_decide_eq_true hlt
        rw [en']
        refine wpS_bind (elem_S hia ?_)
        have hm2 : MR (a.toList ++ b.toList) (front a m) (front b (n + 1)) (out'.push a[m]).toList.reverse := by
          rw [front_snoc hia] at hm'
          rw [rev_push]
          refine MR.left hm' (fun x hx y hy => ?_)
          rw [List.mem_singleton.mp hy]
          obtain ⟨j, hj1, hj, rfl⟩ := mem_front hx
          have := hsb j n (by omega) hib
          rw [K_at hj, K_at hib] at this
          omega
        refine wpS_ite (fun he => wpS_pure (.inl ⟨_, rfl, fin _ _ _ _ hs hm2 (.inl (beq_iff_eq.mp he))⟩)) (fun he => ?_)
        have he' : m ≠ 0 := fun e => he (beq_iff_eq.mpr e)
        clear he hlt hm'
        exact wpS_ite (fun _ => wpS_pure (.inr ⟨_, _, _, _, _, rfl, hs, hm2, Nat.pos_of_ne_zero he', Nat.le_of_lt q2, q3, q4, by omega⟩)) (fun _ => wpS_pure ⟨_, _, _, _, _, rfl, hs, hm2, Nat.pos_of_ne_zero he', Nat.le_of_lt q2, q3, q4, by omega⟩)
      · replace hlt : ¬ num b[n] < num a[m] := fun e => hlt (decide_eq_true e)
        rw [em']
        refine wpS_bind (elem_S hib ?_)
        have hm2 : MR (a.toList ++ b.toList) (front a (m + 1)) (front b n) (out'.push b[n]).toList.reverse := by
          rw [front_snoc hib] at hm'
          rw [rev_push]
          refine MR.right hm' (fun x hx y hy => ?_)
          rw [List.mem_singleton.mp hy]
          obtain ⟨j, hj1, hj, rfl⟩ := mem_front hx
          have := hsa j m (by omega) hia
          rw [K_at hj, K_at hia] at this
          omega
        refine wpS_ite (fun he => wpS_pure (.inl ⟨_, rfl, finF _ _ _ _ hs hm2 (beq_iff_eq.mp he)⟩)) (fun he => ?_)
        have he' : n ≠ 1 := fun e => he (beq_iff_eq.mpr e)
        clear he hlt hm'
        have he2 : 2 ≤ n := by omega
        exact wpS_ite (fun _ => wpS_pure (.inr ⟨_, _, _, _, _, rfl, hs, hm2, q1, q2, he2, Nat.le_of_lt q4, by omega⟩)) (fun _ => wpS_pure ⟨_, _, _, _, _, rfl, hs, hm2, q1, q2, he2, Nat.le_of_lt q4, by omega⟩)
    case post2 =>
      have hx0 := hI.le
      clear hI
      intro c st2 hI
      refine hI.elim ?_ ?_ <;> clear hI <;> revert c
      · refine useS ?_
        intro r t hq
        exact wpS_pure ⟨_, rfl, hq⟩
      · refine use5 ?_
        intro na' nb' out' ac bc hI2
        dsimp -zeta only
        extract_lets -underBinder -merge z1 z2 z3 z4 z5 z6 z7 z8 z9
        dsimp -zeta only [z1, z2, z3, z4, z5, z6, z7, z8, z9]
        refine wpS_bind (wpS_lift (wpAny_rule ⟨rfl, ?_⟩))
        extract_lets -underBinder -merge m1
        refine wpS_bind (wpS_mono (wpS_forRange (I := fun y c st' => ∃ na' nb' out' g ac bc, c = (none, na', nb', out', g, ac, bc) ∧ HiI a b st st' (na + nb) 1 na' nb' out')
          (Q := fun c st' => (∃ r, c.1 = some r ∧ Q r st') ∨ ∃ na' nb' out' g ac bc, c = (none, na', nb', out', g, ac, bc) ∧ HiI a b st st' (na + nb) 1 na' nb' out') ?step3 ?fin3 ⟨na', nb', out', _, ac, bc, rfl, hI2⟩) ?post3)
        case fin3 =>
          intro c st' hI
          exact .inr hI
        case post3 =>
          clear hI2
          intro c st3 hI
          refine hI.elim ?_ ?_ <;> clear hI <;> revert c
          · refine useS ?_
            intro r t hq
            exact wpS_pure ⟨_, rfl, hq⟩
          · refine use6 ?_
            intro na' nb' out' g ac bc hI
            dsimp only
            exact wpS_bind (setMinGallop_S fun st4 hs4 => wpS_pure ⟨_, _, _, _, rfl, hI.hs.trans hs4, hI.m, hI.la, hI.la', hI.lb, hI.lb', by have := hI.le; omega⟩)
        case step3 =>
          clear hI2
          intro y c st3 _ hy hI
          revert c
          refine use6 ?_
          intro na' nb' out' g ac bc hI
          have hs3 := hI.hs
          have hm' := hI.m
          have q1 := hI.la
          have q2 := hI.la'
          have q3 := hI.lb
          have q4 := hI.lb'
          have q5 := hI.le
          clear hI
          try dsimp -zeta only
          extract_lets -underBinder -merge z1 z2 z3 z4 z5 z6 z7 z8 z9 za zb jp
          refine wpS_fn1 (J := jp) (fun _ st' => Same st st') ?jk ?jh
          case jh =>
            intro hjp
            clear_value jp
            dsimp -zeta only [z1, z2, z3, z4, z5, z6, z7, z8, z9]
            exact wpS_ite (fun _ => hjp _ _ hs3) (fun _ => hjp _ _ hs3)
          case jk =>
            clear hs3
            intro g0 st3' hs3
            dsimp -zeta only [jp, z1, z2, z3, z4, z5, z6, z7, z8, z9, za, zb]
            refine wpS_bind (setMinGallop_S fun st4 hs4 => ?_)
            have hs5 := hs3.trans hs4
            have hk4 : kindOf st4 = oneType' := hs5.kind.trans hk
            generalize en : nb' - 1 = n
            have en' : nb' = n + 1 := by rw [← en]; exact (Nat.sub_add_cancel (Nat.le_of_succ_le q3)).symm
            clear en
            rw [en'] at hm' q3 q4 q5
            have hib : n < b.size := q4
            refine wpS_bind (elem_S hib (wpS_bind (gallop_S hk4 (hb _ hib) ha (by omega) (by omega) (fun i j h1 h2 h3 => hsa i j h2 (by omega)) fun k hk1 hk2 hk3 => ?_)))
            try dsimp -zeta only
            extract_lets -underBinder -merge y1 y2 jp
            refine wpS_fn2 (J := jp) (fun na2 out2 st' => Same st st' ∧ MR (a.toList ++ b.toList) (front a na2) (front b (n + 1)) out2.toList.reverse ∧ (∀ j, j < na2 → K a j ≤ num b[n]) ∧ 1 ≤ na2 ∧ 1 + na2 + (n + 1) ≤ na + nb ∧ na2 ≤ a.size) ?jk2 ?jh2
            case jh2 =>
              intro hjp
              clear_value jp
              dsimp -zeta only [y1]
              have hbef : ∀ j, j < k → K a j ≤ num b[n] := by
                intro j hj
                have z := hk2 j hj
                rw [Nat.zero_add] at z
                simpa [ahead] using z
              have haft : ∀ j, k ≤ j → j < na' → num b[n] < K a j := by
                intro j h1 h2
                have z := hk3 j h1 h2
                rw [Nat.zero_add] at z
                simpa [ahead] using z
              refine wpS_ite (fun hk0 => ?_) (fun hk0 => ?_)
              · have hm2 : MR (a.toList ++ b.toList) (front a k) (front b (n + 1)) (out' ++ (a.extract k na').reverse).toList.reverse := by
                  rw [front_block hk1] at hm'
                  rw [rev_block]
                  refine MR.left hm' (fun x hx y hy => ?_)
                  obtain ⟨j, hj1, hj, rfl⟩ := mem_front hx
                  obtain ⟨i, hi1, hi2, hi, rfl⟩ := mem_extract hy
                  have z1 := haft i hi1 hi2
                  have z2 := hsb j n (by omega) hib
                  rw [K_at hi] at z1
                  rw [K_at hj, K_at hib] at z2
                  omega
                try dsimp only
                try rw [en']
                refine wpS_ite (fun e1 => wpS_pure (.inl ⟨_, rfl, fin _ _ _ _ hs5 hm2 (.inl (beq_iff_eq.mp e1))⟩)) (fun e1 => ?_)
                have e3 : k ≠ 0 := fun e => e1 (beq_iff_eq.mpr e)
                clear haft e1
                exact hjp _ _ _ ⟨hs5, hm2, hbef, Nat.pos_of_ne_zero e3, by omega, by omega⟩
              · have e0 : k = na' := by omega
                rw [e0] at hbef
                exact hjp _ _ _ ⟨hs5, hm', hbef, q1, q5, q2⟩
            case jk2 =>
              clear hs3 hs4 hs5 hk4 hm' hk1 hk2 hk3
              rintro na2 out2 st5 ⟨hs5, hm2, hbef, e3, e5, e6⟩
              have hk4 : kindOf st5 = oneType' := hs5.kind.trans hk
              dsimp -zeta only [jp, y1, y2]
              try clear jp y2 y1
              extract_lets -underBinder -merge x1
              simp -zeta only [Nat.add_sub_cancel, x1]
              try clear x1
              refine wpS_bind (elem_S hib ?_)
              extract_lets -underBinder -merge x2
              dsimp -zeta only [x2]
              try clear x2
              have hm3 : MR (a.toList ++ b.toList) (front a na2) (front b n) (out2.push b[n]).toList.reverse := by
                rw [front_snoc hib] at hm2
                rw [rev_push]
                refine MR.right hm2 (fun x hx y hy => ?_)
                rw [List.mem_singleton.mp hy]
                obtain ⟨j, hj1, hj, rfl⟩ := mem_front hx
                have z1 := hbef j hj1
                rw [K_at hj] at z1
                exact z1
              refine wpS_ite (fun e4 => wpS_pure (.inl ⟨_, rfl, finF _ _ _ _ hs5 hm3 (beq_iff_eq.mp e4)⟩)) (fun e4 => ?_)
              have e4' : n ≠ 1 := fun e => e4 (beq_iff_eq.mpr e)
              generalize em : na2 - 1 = m
              have em' : na2 = m + 1 := by rw [← em]; exact (Nat.sub_add_cancel e3).symm
              clear em
              rw [em'] at hm3 e3 e5 e6
              have hia : m < a.size := e6
              refine wpS_bind (elem_S hia (wpS_bind (gallop_S hk4 (ha _ hia) hb (by omega) (by omega) (fun i j h1 h2 h3 => hsb i j h2 (by omega)) fun k' hk1' hk2' hk3' => ?_)))
              try dsimp -zeta only
              extract_lets -underBinder -merge y1 y2 jp
              refine wpS_fn2 (J := jp) (fun nb2 out3 st' => Same st st' ∧ MR (a.toList ++ b.toList) (front a (m + 1)) (front b nb2) out3.toList.reverse ∧ (∀ j, j < nb2 → K b j < num a[m]) ∧ 2 ≤ nb2 ∧ nb2 ≤ n) ?jk3 ?jh3
              case jh3 =>
                intro hjp
                clear_value jp
                dsimp -zeta only [y1]
                have hbef2 : ∀ j, j < k' → K b j < num a[m] := by
                  intro j hj
                  have z := hk2' j hj
                  rw [Nat.zero_add] at z
                  simpa [ahead] using z
                have haft2 : ∀ j, k' ≤ j → j < n → num a[m] ≤ K b j := by
                  intro j h1 h2
                  have z := hk3' j h1 h2
                  rw [Nat.zero_add] at z
                  simpa [ahead] using z
                refine wpS_ite (fun hk0 => ?_) (fun hk0 => ?_)
                · have hm4 : MR (a.toList ++ b.toList) (front a (m + 1)) (front b k') (out2.push b[n] ++ (b.extract k' n).reverse).toList.reverse := by
                    rw [front_block hk1'] at hm3
                    rw [rev_block]
                    refine MR.right hm3 (fun x hx y hy => ?_)
                    obtain ⟨j, hj1, hj, rfl⟩ := mem_front hx
                    obtain ⟨i, hi1, hi2, hi, rfl⟩ := mem_extract hy
                    have z1 := haft2 i hi1 hi2
                    have z2 := hsa j m (by omega) hia
                    rw [K_at hi] at z1
                    rw [K_at hj, K_at hia] at z2
                    omega
                  try dsimp only
                  try rw [em']
                  refine wpS_ite (fun e7 => wpS_pure (.inl ⟨_, rfl, finF _ _ _ _ hs5 hm4 (beq_iff_eq.mp e7)⟩)) (fun e7 => ?_)
                  refine wpS_ite (fun e8 => wpS_pure (.inl ⟨_, rfl, fin _ _ _ _ hs5 hm4 (.inr (beq_iff_eq.mp e8))⟩)) (fun e8 => ?_)
                  have e9 : k' ≠ 1 := fun e => e7 (beq_iff_eq.mpr e)
                  have e10 : k' ≠ 0 := fun e => e8 (beq_iff_eq.mpr e)
                  clear haft2 hbef e7 e8
                  exact hjp _ _ _ ⟨hs5, hm4, hbef2, by omega, hk1'⟩
                · have e0 : k' = n := Nat.le_antisymm hk1' (Nat.le_of_sub_eq_zero (Nat.eq_zero_of_not_pos hk0))
                  rw [e0] at hbef2
                  clear haft2 hbef
                  exact hjp _ _ _ ⟨hs5, hm3, hbef2, by omega, Nat.le_refl _⟩
              case jk3 =>
                clear hs5 hm2 hm3 hbef hk4 hk1' hk2' hk3' e4
                rintro nb2 out3 st6 ⟨hs5, hm4, hbef2, e9, e10⟩
                dsimp only [jp, y1, y2]
                try clear jp y2 y1
                try simp only [Nat.add_sub_cancel]
                refine wpS_bind (elem_S hia ?_)
                try dsimp only
                have hm5 : MR (a.toList ++ b.toList) (front a m) (front b nb2) (out3.push a[m]).toList.reverse := by
                  rw [front_snoc hia] at hm4
                  rw [rev_push]
                  refine MR.left hm4 (fun x hx y hy => ?_)
                  rw [List.mem_singleton.mp hy]
                  obtain ⟨j, hj1, hj, rfl⟩ := mem_front hx
                  have z1 := hbef2 j hj1
                  rw [K_at hj] at z1
                  omega
                refine wpS_ite (fun e11 => wpS_pure (.inl ⟨_, rfl, fin _ _ _ _ hs5 hm5 (.inl (beq_iff_eq.mp e11))⟩)) (fun e11 => ?_)
                have e12 : m ≠ 0 := fun e => e11 (beq_iff_eq.mpr e)
                have e13 : nb2 ≤ b.size := Nat.le_trans e10 (Nat.le_of_lt hib)
                have e14 : 1 + m + nb2 ≤ na + nb := by
                  clear hbef2 hm4 hm5 e11
                  omega
                exact wpS_ite (fun _ => wpS_pure (.inr ⟨_, _, _, _, _, _, rfl, hs5, hm5, Nat.pos_of_ne_zero e12, Nat.le_of_lt e6, e9, e13, e14⟩)) (fun _ => wpS_pure ⟨_, _, _, _, _, _, rfl, hs5, hm5, Nat.pos_of_ne_zero e12, Nat.le_of_lt e6, e9, e13, e14⟩)
end
end Mine.Srt
end
section
open PySem PyProof.Rows
namespace Mine.Srt
local macro_rules | `(tactic| omega) => `(tactic| cutsat)
set_option autoImplicit false
def Seg (xs : Array Keyed) (i j : Nat) : Prop := ∀ p q, i ≤ p → p ≤ q → q < j → K xs p ≤ K xs q
def Dsc (xs : Array Keyed) (i j : Nat) : Prop := ∀ p q, i ≤ p → p ≤ q → q < j → K xs q ≤ K xs p
def Nums (xs : Array Keyed) : Prop := ∀ i (h : i < xs.size), isNum xs[i]
theorem Nums.perm {xs ys : Array Keyed} (h : Nums ys) (p : xs.Perm ys) : Nums xs := by
  intro i hi
  have hm : xs[i] ∈ ys.toList := (Array.perm_iff_toList_perm.mp p).mem_iff.mp (by simp)
  obtain ⟨j, hj, e⟩ := List.getElem_of_mem hm
  have := h j (by simpa using hj)
  rw [← e]
  simpa using this
/-- the state may part from the first one only from lo on -/
structure Rl (lo : Nat) (st st' : SortSt) : Prop where
  kind : kindOf st' = kindOf st
  pend : pendingOf st' = pendingOf st
  failed : failedOf st' = failedOf st
  perm : (arrOf st').Perm (arrOf st)
  low : ∀ k, k < lo → (arrOf st')[k]? = (arrOf st)[k]?
theorem Rl.rfl' {lo : Nat} {st : SortSt} : Rl lo st st := ⟨rfl, rfl, rfl, Array.Perm.refl _, fun _ _ => rfl⟩
theorem Rl.trans {lo : Nat} {a b c : SortSt} (h : Rl lo a b) (k : Rl lo b c) : Rl lo a c :=
  ⟨k.kind.trans h.kind, k.pend.trans h.pend, k.failed.trans h.failed, k.perm.trans h.perm, fun i hi => (k.low i hi).trans (h.low i hi)⟩
theorem Rl.set {lo : Nat} {st : SortSt} {xs : Array Keyed} (p : xs.Perm (arrOf st)) (l : ∀ k, k < lo → xs[k]? = (arrOf st)[k]?) : Rl lo st (setArr st xs) := ⟨rfl, rfl, rfl, p, l⟩
theorem Rl.size {lo : Nat} {st st' : SortSt} (h : Rl lo st st') : (arrOf st').size = (arrOf st).size := h.perm.size_eq
theorem Seg.low {lo i j : Nat} {xs ys : Array Keyed} (h : Seg xs i j) (hj : j ≤ lo) (l : ∀ k, k < lo → ys[k]? = xs[k]?) : Seg ys i j := by
  intro p q h1 h2 h3
  rw [K_congr (l p (by omega)), K_congr (l q (by omega))]
  exact h p q h1 h2 h3
section
variable {prog : Program} {w : World} {A : Around} {E : Value → Shared → Prop} {s : Shared}
theorem ltAt_S {st : SortSt} {i j : Nat} {Q : Option Bool → SortSt → Prop} (hk : kindOf st = oneType') (hn : Nums (arrOf st)) (hi : i < (arrOf st).size) (hj : j < (arrOf st).size)
    (h : Q (some (decide (K (arrOf st) i < K (arrOf st) j))) st) : wpS (model prog w) A E s (ltAt' i j) Q st := by
  rw [ltAt'_eq]
  refine wpS_bind (wpS_get ?_)
  show wpS _ _ _ _ (do let x ← elem' (arrOf st) i; let y ← elem' (arrOf st) j; lt' x y) Q st
  refine wpS_bind (elem_S hi (wpS_bind (elem_S hj (lt_S hk (hn i hi) (hn j hj) ?_))))
  rw [K_at hi, K_at hj] at h
  exact h
theorem reverse_S {st : SortSt} {i j : Nat} {Q : Unit → SortSt → Prop} (h : Q () (setArr st (mirror (arrOf st) i j ((j - i) / 2)))) :
    wpS (model prog w) A E s (reverseSlice' i j) Q st := by
  rw [reverseSlice'_eq]; exact wpS_modify h
theorem rl_mirror {lo i j : Nat} {st : SortSt} (h : lo ≤ i) (hj : j ≤ (arrOf st).size) : Rl lo st (setArr st (mirror (arrOf st) i j ((j - i) / 2))) :=
  Rl.set (mirror_perm _ _ _ _) fun k hk => by rw [getElem?_mirror_all hj, if_neg (by omega)]
/-- the climbing loop -/
theorem asc_S {f : Nat → Option (Option Nat) × Nat → StateT SortSt Sem (ForInStep (Option (Option Nat) × Nat))} {lo a nrem : Nat} {st : SortSt} {Q : Option (Option Nat) × Nat → SortSt → Prop}
    (hk : kindOf st = oneType') (hn : Nums (arrOf st)) (hsz : lo + nrem ≤ (arrOf st).size) (ha : 1 ≤ a) (han : a ≤ nrem) (hs : Seg (arrOf st) lo (lo + a))
    (hf : ∀ x n (Q' : ForInStep (Option (Option Nat) × Nat) → SortSt → Prop), 1 ≤ n → n < nrem → Q' (if K (arrOf st) (lo + n) < K (arrOf st) (lo + n - 1) then .done (none, n) else .yield (none, n + 1)) st → wpS (model prog w) A E s (f x (none, n)) Q' st)
    (h : ∀ n, a ≤ n → n ≤ nrem → Seg (arrOf st) lo (lo + n) → (n = nrem ∨ K (arrOf st) (lo + n) < K (arrOf st) (lo + n - 1)) → Q (none, n) st) :
    wpS (model prog w) A E s (forIn [a:nrem] (none, a) f) Q st := by
  refine wpS_forRange (I := fun x c st' => st' = st ∧ c = (none, x) ∧ Seg (arrOf st) lo (lo + x)) ?step ?fin ⟨rfl, rfl, hs⟩
  case fin =>
    rintro c st' ⟨rfl, rfl, hs'⟩
    rw [show max a nrem = nrem by omega] at hs' ⊢
    exact h nrem han (Nat.le_refl _) hs' (.inl rfl)
  case step =>
    rintro x c st' hax hxn ⟨rfl, rfl, hs'⟩
    refine hf x x _ (by omega) hxn ?_
    by_cases hless : K (arrOf st') (lo + x) < K (arrOf st') (lo + x - 1)
    · rw [if_pos hless]
      exact h x hax (by omega) hs' (.inr hless)
    · rw [if_neg hless]
      refine ⟨rfl, rfl, fun p q h1 h2 h3 => ?_⟩
      by_cases hjx : q < lo + x
      · exact hs' p q h1 h2 hjx
      · have hj' : q = lo + x := by omega
        subst hj'
        by_cases hi' : p = lo + x
        · subst hi'; exact Int.le_refl _
        · exact Int.le_trans (hs' p (lo + x - 1) h1 (by omega) (by omega)) (Int.not_lt.mp hless)
theorem ascStep_S {st : SortSt} {i j n : Nat} {Q' : ForInStep (Option (Option Nat) × Nat) → SortSt → Prop} {g : Option Bool → StateT SortSt Sem (ForInStep (Option (Option Nat) × Nat))} (hk : kindOf st = oneType') (hn : Nums (arrOf st)) (hi : i < (arrOf st).size) (hj : j < (arrOf st).size)
    (hQ : Q' (if K (arrOf st) i < K (arrOf st) j then .done (none, n) else .yield (none, n + 1)) st) (h1 : g (some true) = pure (.done (none, n))) (h2 : g (some false) = pure (.yield (none, n + 1))) : wpS (model prog w) A E s (ltAt' i j >>= g) Q' st := by
  refine wpS_bind (ltAt_S hk hn hi hj ?_)
  by_cases hless : K (arrOf st) i < K (arrOf st) j
  · rw [if_pos hless] at hQ
    simp only [hless, decide_true, h1]
    exact wpS_pure hQ
  · rw [if_neg hless] at hQ
    simp only [hless, decide_false, h2]
    exact wpS_pure hQ
theorem countRun_S {st : SortSt} {lo nrem : Nat} {Q : Option Nat → SortSt → Prop} (hk : kindOf st = oneType') (hn : Nums (arrOf st)) (hsz : lo + nrem ≤ (arrOf st).size) (h1 : 1 ≤ nrem)
    (h : ∀ m st', Rl lo st st' → 1 ≤ m → m ≤ nrem → Seg (arrOf st') lo (lo + m) → Q (some m) st') :
    wpS (model prog w) A E s (countRun' lo nrem) Q st := by
  unfold countRun'
  refine wpS_bind (asc_S hk hn hsz (Nat.le_refl 1) h1 (fun p q a b c => by have : p = q := by omega
                                                                           subst this; exact Int.le_refl _) (fun x n Q' a b c => ascStep_S hk hn (by omega) (by omega) c rfl rfl) fun n hn1 hn2 hsn hor => ?_)
  dsimp only
  by_cases hnn : n = nrem
  · rw [if_pos (by simpa using hnn)]
    exact wpS_pure (h n st Rl.rfl' hn1 hn2 hsn)
  rw [if_neg (by simpa using hnn)]
  have hlt : K (arrOf st) (lo + n) < K (arrOf st) (lo + n - 1) := hor.resolve_left hnn
  by_cases hgt : n > 1
  case' pos =>
    rw [if_pos hgt]
    refine wpS_bind (ltAt_S hk hn (by omega) (by omega) ?_)
    by_cases hrose : K (arrOf st) lo < K (arrOf st) (lo + n - 1)
    · simp only [hrose, decide_true, if_true]
      exact wpS_pure (h n st Rl.rfl' hn1 hn2 hsn)
    simp only [hrose, decide_false, Bool.false_eq_true, if_false]
    refine wpS_bind (reverse_S ?_)
    have hlon : lo + n ≤ (arrOf st).size := by omega
    have hall : ∀ k, lo ≤ k → k < lo + n → K (arrOf st) k = K (arrOf st) (lo + n - 1) := by
      intro k h2 hk
      have a1 := hsn lo k (by omega) h2 hk
      have a2 := hsn k (lo + n - 1) h2 (by omega) (by omega)
      omega
    have hd : Dsc (arrOf (setArr st (mirror (arrOf st) lo (lo + n) ((lo + n - lo) / 2)))) lo (lo + (n + 1)) := by
      show Dsc (mirror (arrOf st) lo (lo + n) ((lo + n - lo) / 2)) lo (lo + (n + 1))
      intro p q b1 b2 b3
      rw [K_mirror_equal hlon hall, K_mirror_equal hlon hall]
      by_cases hjn : q < lo + n
      · rw [hall p (by omega) (by omega), hall q (by omega) hjn]; exact Int.le_refl _
      · have hj' : q = lo + n := by omega
        subst hj'
        by_cases hi' : p = lo + n
        · subst hi'; exact Int.le_refl _
        · rw [hall p (by omega) (by omega)]; exact Int.le_of_lt hlt
    have hR := rl_mirror (lo := lo) (st := st) (Nat.le_refl lo) hlon
    generalize setArr st (mirror (arrOf st) lo (lo + n) ((lo + n - lo) / 2)) = st1 at hR hd ⊢
  case' neg =>
    rw [if_neg hgt]
    have hn1' : n = 1 := by omega
    have hd : Dsc (arrOf st) lo (lo + (n + 1)) := by
      intro p q b1 b2 b3
      by_cases hi' : p = q
      · subst hi'; exact Int.le_refl _
      · have hi0 : p = lo + n - 1 := by omega
        have hj1 : q = lo + n := by omega
        subst hi0; subst hj1
        exact Int.le_of_lt hlt
    obtain ⟨st1, hst1⟩ : ∃ st1, st1 = st := ⟨_, rfl⟩
    have hR : Rl lo st st1 := by rw [hst1]; exact Rl.rfl'
    rw [← hst1] at hd ⊢
  all_goals
    have hk1 : kindOf st1 = oneType' := hR.kind.trans hk
    have hsz1 : lo + nrem ≤ (arrOf st1).size := by rw [hR.size]; exact hsz
    refine wpS_bind (wpS_lift (wpAny_rule ⟨rfl, ?_⟩))
    refine wpS_bind (wpS_mono (wpS_forRange (I := fun x c st' => ∃ neq, c = (none, x, neq) ∧ Rl lo st st' ∧ Dsc (arrOf st') lo (lo + x) ∧ neq + 1 ≤ x ∧
        (∀ i, lo + x - (neq + 1) ≤ i → i < lo + x → K (arrOf st') i = K (arrOf st') (lo + x - 1)))
      (Q := fun c st' => ∃ x neq, c = (none, x, neq) ∧ 1 ≤ x ∧ x ≤ nrem ∧ Rl lo st st' ∧ Dsc (arrOf st') lo (lo + x) ∧ neq + 1 ≤ x ∧
        (∀ i, lo + x - (neq + 1) ≤ i → i < lo + x → K (arrOf st') i = K (arrOf st') (lo + x - 1))) ?step ?fin ⟨0, rfl, hR, hd, by omega, fun i a b => by congr 1; omega⟩) ?post)
    case fin =>
      rintro c st' ⟨neq, rfl, hR', hd', hq, he⟩
      rw [show max (n + 1) nrem = nrem by omega] at hd' hq he ⊢
      exact ⟨nrem, neq, rfl, by omega, Nat.le_refl _, hR', hd', hq, he⟩
    case step =>
      rintro x c st' hax hxn ⟨neq, rfl, hR', hd', hq, he⟩
      dsimp only
      have hk' : kindOf st' = oneType' := hR'.kind.trans hk
      have hn' : Nums (arrOf st') := hn.perm hR'.perm
      have hsz' : lo + nrem ≤ (arrOf st').size := by rw [hR'.size]; exact hsz
      have hxs : lo + x ≤ (arrOf st').size := by omega
      refine wpS_bind (ltAt_S hk' hn' (by omega) (by omega) ?_)
      dsimp only
      by_cases hless : K (arrOf st') (lo + x) < K (arrOf st') (lo + x - 1)
      · simp only [hless, decide_true, if_true]
        have step1 : ∀ xs : Array Keyed, (∀ k, K xs k = K (arrOf st') k) → Dsc xs lo (lo + (x + 1)) := by
          intro xs hk p q b1 b2 b3
          rw [hk, hk]
          by_cases hjx : q < lo + x
          · exact hd' p q b1 b2 hjx
          · have hj' : q = lo + x := by omega
            subst hj'
            by_cases hi' : p = lo + x
            · subst hi'; exact Int.le_refl _
            · exact Int.le_trans (Int.le_of_lt hless) (hd' p (lo + x - 1) b1 (by omega) (by omega))
        by_cases hneq : neq > 0
        · rw [if_pos hneq]
          refine wpS_bind (reverse_S (wpS_pure ⟨0, rfl, hR'.trans (rl_mirror (by omega) hxs), step1 _ (K_mirror_equal hxs he), by omega, fun i a b => by congr 1; omega⟩))
        · rw [if_neg hneq]
          exact wpS_pure ⟨0, rfl, hR', step1 _ (fun _ => rfl), by omega, fun i a b => by congr 1; omega⟩
      · simp only [hless, decide_false, Bool.false_eq_true, if_false]
        refine wpS_bind (ltAt_S hk' hn' (by omega) (by omega) ?_)
        dsimp only
        by_cases hlarger : K (arrOf st') (lo + x - 1) < K (arrOf st') (lo + x)
        · simp only [hlarger, decide_true, if_true]
          exact wpS_pure ⟨x, neq, rfl, by omega, by omega, hR', hd', hq, he⟩
        · simp only [hlarger, decide_false, Bool.false_eq_true, if_false]
          have heqx : K (arrOf st') (lo + x) = K (arrOf st') (lo + x - 1) := by omega
          refine wpS_pure ⟨neq + 1, rfl, hR', fun p q b1 b2 b3 => ?_, by omega, fun i b1 b2 => ?_⟩
          · by_cases hjx : q < lo + x
            · exact hd' p q b1 b2 hjx
            · have hj' : q = lo + x := by omega
              subst hj'
              by_cases hi' : p = lo + x
              · subst hi'; exact Int.le_refl _
              · rw [heqx]; exact hd' p (lo + x - 1) b1 (by omega) (by omega)
          · rw [show lo + (x + 1) - 1 = lo + x by omega]
            by_cases hix : i = lo + x
            · subst hix; rfl
            · rw [heqx]; exact he i (by omega) (by omega)
    case post =>
      rintro c st' ⟨x, neq, rfl, hx1, hx2, hR', hd', hq, he⟩
      dsimp only
      have hsz' : lo + nrem ≤ (arrOf st').size := by rw [hR'.size]; exact hsz
      have hxs : lo + x ≤ (arrOf st').size := by omega
      by_cases hneq : neq > 0
      case' pos =>
        rw [if_pos hneq]
        refine wpS_bind (reverse_S ?_)
        have hR2 := hR'.trans (rl_mirror (lo := lo) (i := lo + x - (neq + 1)) (j := lo + x) (by omega) hxs)
        have hd2 : Dsc (arrOf (setArr st' (mirror (arrOf st') (lo + x - (neq + 1)) (lo + x) ((lo + x - (lo + x - (neq + 1))) / 2)))) lo (lo + x) := by
          show Dsc (mirror (arrOf st') (lo + x - (neq + 1)) (lo + x) ((lo + x - (lo + x - (neq + 1))) / 2)) lo (lo + x)
          intro p q b1 b2 b3
          rw [K_mirror_equal hxs he, K_mirror_equal hxs he]
          exact hd' p q b1 b2 b3
        generalize setArr st' (mirror (arrOf st') (lo + x - (neq + 1)) (lo + x) ((lo + x - (lo + x - (neq + 1))) / 2)) = st2 at hR2 hd2 ⊢
      case' neg =>
        rw [if_neg hneq]
        have hR2 := hR'
        have hd2 := hd'
        clear hsz' hxs he hR' hd'
        generalize st' = st2 at hR2 hd2 ⊢
      all_goals
        have hsz2 : lo + x ≤ (arrOf st2).size := by rw [hR2.size]; omega
        refine wpS_bind (reverse_S ?_)
        have hR3 := hR2.trans (rl_mirror (lo := lo) (i := lo) (j := lo + x) (Nat.le_refl lo) hsz2)
        have hs3 : Seg (arrOf (setArr st2 (mirror (arrOf st2) lo (lo + x) ((lo + x - lo) / 2)))) lo (lo + x) := by
          show Seg (mirror (arrOf st2) lo (lo + x) ((lo + x - lo) / 2)) lo (lo + x)
          intro p q b1 b2 b3
          rw [K_mirror hsz2, K_mirror hsz2, if_pos (by omega), if_pos (by omega)]
          exact hd2 _ _ (by omega) (by omega) (by omega)
        generalize setArr st2 (mirror (arrOf st2) lo (lo + x) ((lo + x - lo) / 2)) = st3 at hR3 hs3 ⊢
        have hk3 : kindOf st3 = oneType' := hR3.kind.trans hk
        have hn3 : Nums (arrOf st3) := hn.perm hR3.perm
        have hsz3 : lo + nrem ≤ (arrOf st3).size := by rw [hR3.size]; exact hsz
        refine wpS_bind (asc_S hk3 hn3 hsz3 hx1 hx2 hs3 (fun x n Q' a b c => ascStep_S hk3 hn3 (by omega) (by omega) c rfl rfl) fun n a b c _ => ?_)
        dsimp only
        exact wpS_pure (h n st3 hR3 (by omega) b c)
theorem binarySort_S {st : SortSt} {lo n ok : Nat} {Q : Bool → SortSt → Prop} (hk : kindOf st = oneType') (hn : Nums (arrOf st)) (hsz : lo + n ≤ (arrOf st).size) (hok : ok ≤ n) (hs : Seg (arrOf st) lo (lo + ok))
    (h : ∀ st', Rl lo st st' → Seg (arrOf st') lo (lo + n) → Q true st') : wpS (model prog w) A E s (binarySort' lo n ok) Q st := by
  unfold binarySort'
  refine wpS_bind (wpS_mono (wpS_forRange (I := fun k c st' => c = (none, ()) ∧ Rl lo st st' ∧ Seg (arrOf st') lo (lo + min k n))
    (Q := fun c st' => c = (none, ()) ∧ Rl lo st st' ∧ Seg (arrOf st') lo (lo + n)) ?step ?fin ?init) ?post)
  case post =>
    rintro c st' ⟨rfl, hB', hs'⟩
    exact wpS_pure (h st' hB' hs')
  case init =>
    refine ⟨rfl, Rl.rfl', fun p q a b c => ?_⟩
    by_cases h1 : ok = 0
    · have : p = q := by omega
      subst this; exact Int.le_refl _
    · exact hs p q a b (by omega)
  case fin =>
    rintro c st' ⟨hc, hB', hs'⟩
    refine ⟨hc, hB', ?_⟩
    rwa [show min (max (max ok 1) n) n = n by omega] at hs'
  case step =>
    rintro k c st' hak hkn ⟨rfl, hR', hs'⟩
    rw [show min k n = k by omega] at hs'
    have hk' : kindOf st' = oneType' := hR'.kind.trans hk
    have hn' : Nums (arrOf st') := hn.perm hR'.perm
    have hsz' : lo + n ≤ (arrOf st').size := by rw [hR'.size]; exact hsz
    dsimp only
    refine wpS_bind (wpS_mono (wpS_forRange (I := fun x c st'' => st'' = st' ∧ ∃ l r, c = (none, l, r) ∧ l ≤ r ∧ r ≤ k ∧ r - l ≤ k - x ∧
        (∀ i, i < l → K (arrOf st') (lo + i) ≤ K (arrOf st') (lo + k)) ∧ (∀ i, r ≤ i → i < k → K (arrOf st') (lo + k) < K (arrOf st') (lo + i)))
      (Q := fun c st'' => st'' = st' ∧ ∃ l r, c = (none, l, r) ∧ l ≤ k ∧
        (∀ i, i < l → K (arrOf st') (lo + i) ≤ K (arrOf st') (lo + k)) ∧ (∀ i, l ≤ i → i < k → K (arrOf st') (lo + k) < K (arrOf st') (lo + i))) ?istep ?ifin ?iinit) ?ipost)
    case iinit => exact ⟨rfl, 0, k, rfl, by omega, by omega, by omega, fun i hi => by omega, fun i h1 h2 => by omega⟩
    case ifin =>
      rintro c st'' ⟨rfl, l, r, rfl, hlr, hrk, hm, hlo, hhi⟩
      have : l = r := by omega
      subst this
      exact ⟨rfl, l, l, rfl, hrk, hlo, hhi⟩
    case istep =>
      rintro x c st'' _ hxk ⟨rfl, l, r, rfl, hlr, hrk, hm, hlo, hhi⟩
      dsimp only
      by_cases hge : l ≥ r
      · rw [if_pos hge]
        have : l = r := by omega
        subst this
        exact wpS_pure ⟨rfl, l, l, rfl, hrk, hlo, hhi⟩
      · rw [if_neg hge]
        refine wpS_bind (ltAt_S hk' hn' (by omega) (by omega) ?_)
        dsimp only
        by_cases hless : K (arrOf st'') (lo + k) < K (arrOf st'') (lo + (l + r) / 2)
        · simp only [hless, decide_true, if_true]
          refine wpS_pure ⟨rfl, l, (l + r) / 2, rfl, by omega, by omega, by omega, hlo, fun i h1 h2 => ?_⟩
          exact Int.lt_of_lt_of_le hless (hs' _ _ (by omega) (by omega) (by omega))
        · simp only [hless, decide_false, Bool.false_eq_true, if_false]
          refine wpS_pure ⟨rfl, (l + r) / 2 + 1, r, rfl, by omega, by omega, by omega, fun i h1 => ?_, hhi⟩
          exact Int.le_trans (hs' (lo + i) (lo + (l + r) / 2) (by omega) (by omega) (by omega)) (Int.not_lt.mp hless)
    case ipost =>
      rintro c st'' ⟨rfl, l, r, rfl, hlk, hlo, hhi⟩
      dsimp only
      show wpS _ _ _ _ (do moveDown' (lo + k) (lo + l); pure (ForInStep.yield (none, ()))) _ _
      rw [moveDown'_eq]
      have hks : lo + k < (arrOf st'').size := by omega
      refine wpS_bind (wpS_modify (wpS_pure ⟨rfl, hR'.trans (Rl.set (bubble_perm _ _ _) fun i hi => ?_), ?_⟩))
      · rw [getElem?_bubble hks _ (by omega), if_neg (by omega), if_neg (by omega)]
      rw [show min (k + 1) n = k + 1 by omega]
      intro i j hi0 hij hj
      show K (bubble (arrOf st'') (lo + k) (lo + k - (lo + l))) i ≤ K (bubble (arrOf st'') (lo + k) (lo + k - (lo + l))) j
      rw [K_bubble hks (by omega), K_bubble hks (by omega), show lo + k - (lo + k - (lo + l)) = lo + l by omega]
      have hlo' : ∀ i, lo ≤ i → i < lo + l → K (arrOf st'') i ≤ K (arrOf st'') (lo + k) := fun i a b => by
        have := hlo (i - lo) (by omega)
        rwa [show lo + (i - lo) = i by omega] at this
      have hhi' : ∀ i, lo + l ≤ i → i < lo + k → K (arrOf st'') (lo + k) < K (arrOf st'') i := fun i a b => by
        have := hhi (i - lo) (by omega) (by omega)
        rwa [show lo + (i - lo) = i by omega] at this
      repeat' split
      all_goals first
        | (exfalso; omega)
        | exact Int.le_refl _
        | exact hlo' _ (by omega) (by omega)
        | exact Int.le_of_lt (hhi' _ (by omega) (by omega))
        | exact hs' _ _ (by omega) (by omega) (by omega)
end
end Mine.Srt
end
section
open PySem PyProof.Rows
namespace Mine.Srt
local macro_rules | `(tactic| omega) => `(tactic| lia)
set_option autoImplicit false
def put (sa : Nat) (l : List Keyed) (j0 : Nat) (a : Array Keyed) : Array Keyed := (l.zipIdx j0).foldl (fun a (p, j) => a.setIfInBounds (sa + j) p) a
theorem put_size (sa : Nat) : ∀ (l : List Keyed) (j0 : Nat) (a : Array Keyed), (put sa l j0 a).size = a.size
  | [], _, _ => rfl
  | x :: l, j0, a => by
    show (put sa l (j0 + 1) (a.setIfInBounds (sa + j0) x)).size = a.size
    rw [put_size sa l]; simp
theorem put_get (sa : Nat) : ∀ (l : List Keyed) (j0 : Nat) (a : Array Keyed), sa + j0 + l.length ≤ a.size → ∀ k : Nat,
    (put sa l j0 a)[k]? = if sa + j0 ≤ k ∧ k < sa + j0 + l.length then l[k - (sa + j0)]? else a[k]?
  | [], j0, a, _, k => by
    have : ¬ (sa + j0 ≤ k ∧ k < sa + j0 + ([] : List Keyed).length) := by simp only [List.length_nil]; omega
    rw [if_neg this]; rfl
  | x :: l, j0, a, h, k => by
    show (put sa l (j0 + 1) (a.setIfInBounds (sa + j0) x))[k]? = _
    simp only [List.length_cons] at h
    rw [put_get sa l (j0 + 1) _ (by simp; omega) k, Array.getElem?_setIfInBounds]
    simp only [List.length_cons]
    by_cases h1 : k = sa + j0
    · subst h1
      rw [if_neg (by omega), if_pos rfl, if_pos (by omega), if_pos (by omega)]
      simp
    · rw [if_neg (c := sa + j0 = k) (by omega)]
      by_cases h2 : sa + (j0 + 1) ≤ k ∧ k < sa + (j0 + 1) + l.length
      · rw [if_pos h2, if_pos (by omega)]
        rw [show k - (sa + j0) = (k - (sa + (j0 + 1))) + 1 by omega, List.getElem?_cons_succ]
      · rw [if_neg h2, if_neg (by omega)]
theorem put_list {sa : Nat} {l : List Keyed} {a : Array Keyed} (h : sa + l.length ≤ a.size) : (put sa l 0 a).toList = a.toList.take sa ++ l ++ a.toList.drop (sa + l.length) := by
  apply List.ext_getElem?
  intro k
  rw [Array.getElem?_toList, put_get sa l 0 a h, Nat.add_zero]
  rw [List.append_assoc, List.getElem?_append, List.getElem?_append]
  have e : (a.toList.take sa).length = sa := by simp; omega
  rw [e]
  by_cases h1 : k < sa
  · rw [if_neg (by omega), if_pos h1, List.getElem?_take, if_pos h1, Array.getElem?_toList]
  · rw [if_neg h1]
    by_cases h2 : k < sa + l.length
    · rw [if_pos (by omega), if_pos (by omega)]
    · rw [if_neg (by omega), if_neg (by omega), List.getElem?_drop, Array.getElem?_toList]
      congr 1; omega
theorem cut3 {a : Array Keyed} {i j k : Nat} (hij : i ≤ j) (hjk : j ≤ k) : a.toList = a.toList.take i ++ ((a.extract i j).toList ++ (a.extract j k).toList) ++ a.toList.drop k := by
  rw [Array.toList_extract, Array.toList_extract, List.extract_eq_take_drop, List.extract_eq_take_drop]
  have e1 : a.toList.drop i = (a.toList.drop i).take (j - i) ++ a.toList.drop j := by
    have := (List.take_append_drop (j - i) (a.toList.drop i)).symm
    rwa [List.drop_drop, show i + (j - i) = j by omega] at this
  have e2 : a.toList.drop j = (a.toList.drop j).take (k - j) ++ a.toList.drop k := by
    have := (List.take_append_drop (k - j) (a.toList.drop j)).symm
    rwa [List.drop_drop, show j + (k - j) = k by omega] at this
  rw [List.append_assoc, List.append_assoc, ← e2, ← e1, List.take_append_drop]
section
variable {prog : Program} {w : World} {A : Around} {E : Value → Shared → Prop} {s : Shared}
theorem wpS_set {st st' : SortSt} {Q : PUnit → SortSt → Prop} (h : Q ⟨⟩ st') : wpS (model prog w) A E s (set st' : StateT SortSt Sem PUnit) Q st := by
  unfold wpS; rw [StateT.run_set]; exact wpAny_pure ⟨rfl, h⟩
theorem K_extract {a : Array Keyed} {i n k : Nat} (h : k < n - i) (hn : n ≤ a.size) : K (a.extract i n) k = K a (i + k) := by
  unfold K
  rw [Array.getElem?_extract, if_pos (by omega)]
theorem mergeAt_S {st : SortSt} {i sa na pa sb nb pb : Nat} {Q : Bool → SortSt → Prop} (hk : kindOf st = oneType') (hn : Nums (arrOf st)) (hf : failedOf st = none)
    (h1 : (pendingOf st)[i]? = some (sa, na, pa)) (h2 : (pendingOf st)[i + 1]? = some (sb, nb, pb)) (hsb : sb = sa + na) (hna : 1 ≤ na) (hnb : 1 ≤ nb) (hsz : sb + nb ≤ (arrOf st).size)
    (hs1 : Seg (arrOf st) sa sb) (hs2 : Seg (arrOf st) sb (sb + nb))
    (h : ∀ st', kindOf st' = kindOf st → failedOf st' = none → (arrOf st').Perm (arrOf st) → pendingOf st' = ((pendingOf st).setIfInBounds i (sa, na + nb, pa)).eraseIdxIfInBounds (i + 1) →
      (∀ k, k < sa ∨ sb + nb ≤ k → (arrOf st')[k]? = (arrOf st)[k]?) → Seg (arrOf st') sa (sb + nb) → Q true st') :
    wpS (model prog w) A E s (mergeAt' i) Q st := by
  unfold mergeAt'
  refine wpS_bind (wpS_get ?_)
  rw [h1, h2]
  dsimp only
  refine wpS_bind (wpS_set ?_)
  have hpend : ∃ p, p = ((pendingOf st).setIfInBounds i (sa, na + nb, pa)).eraseIdxIfInBounds (i + 1) := ⟨_, rfl⟩
  obtain ⟨pend, hpend⟩ := hpend
  rw [← hpend] at h
  show wpS _ _ _ _ _ _ (SortSt.mk' (kindOf st) (arrOf st) (((pendingOf st).setIfInBounds i (sa, na + nb, pa)).eraseIdxIfInBounds (i + 1)) (gallopOf st) (failedOf st))
  rw [← hpend]
  obtain ⟨st0, hst0⟩ : ∃ st0, st0 = SortSt.mk' (kindOf st) (arrOf st) pend (gallopOf st) (failedOf st) := ⟨_, rfl⟩
  have k0 : kindOf st0 = kindOf st := by rw [hst0]
  have a0 : arrOf st0 = arrOf st := by rw [hst0]
  have p0 : pendingOf st0 = pend := by rw [hst0]
  have f0 : failedOf st0 = none := by rw [hst0]; exact hf
  rw [← hst0]
  have hk0 : kindOf st0 = oneType' := k0.trans hk
  have hbs : sb < (arrOf st).size := by omega
  refine wpS_bind (elem_S hbs ?_)
  refine wpS_bind (gallop_S (arr := arrOf st) hk0 (hn _ hbs) hn (by omega) (by omega) (fun p q a b c => hs1 p q a b (by omega)) fun k hk1 hk2 hk3 => ?_)
  dsimp only
  rw [← K_at hbs] at hk2 hk3
  have low : ∀ j, sa ≤ j → j < sa + k → K (arrOf st) j ≤ K (arrOf st) sb := by
    intro j q1 q2
    have := hk2 (j - sa) (by omega)
    rw [show sa + (j - sa) = j by omega] at this
    simpa [ahead] using this
  have high : ∀ j, sa + k ≤ j → j < sb → K (arrOf st) sb < K (arrOf st) j := by
    intro j q1 q2
    have := hk3 (j - sa) (by omega) (by omega)
    rw [show sa + (j - sa) = j by omega] at this
    simpa [ahead] using this
  by_cases e1 : (na - k == 0) = true
  · rw [if_pos e1]
    have e1' : na - k = 0 := by simpa using e1
    refine wpS_pure (h st0 k0 f0 (by rw [a0]) p0 (fun _ _ => by rw [a0]) ?_)
    rw [a0]
    intro p q q1 q2 q3
    by_cases c1 : q < sb
    · exact hs1 p q q1 q2 c1
    · by_cases c2 : p < sb
      · exact Int.le_trans (low p q1 (by omega)) (hs2 sb q (Nat.le_refl _) (by omega) q3)
      · exact hs2 p q (by omega) q2 q3
  rw [if_neg e1]
  have e1' : k < na := by
    have : na - k ≠ 0 := by simpa using e1
    omega
  have hla : sa + k + (na - k) - 1 < (arrOf st).size := by omega
  refine wpS_bind (elem_S hla ?_)
  refine wpS_bind (gallop_S (arr := arrOf st) hk0 (hn _ hla) hn (by omega) (by omega) (fun p q a b c => hs2 p q a b (by omega)) fun m hm1 hm2 hm3 => ?_)
  dsimp only
  rw [← K_at hla] at hm2 hm3
  have elast : sa + k + (na - k) - 1 = sb - 1 := by omega
  rw [elast] at hm2 hm3
  have low2 : ∀ j, sb ≤ j → j < sb + m → K (arrOf st) j < K (arrOf st) (sb - 1) := by
    intro j q1 q2
    have := hm2 (j - sb) (by omega)
    rw [show sb + (j - sb) = j by omega] at this
    simpa [ahead] using this
  have high2 : ∀ j, sb + m ≤ j → j < sb + nb → K (arrOf st) (sb - 1) ≤ K (arrOf st) j := by
    intro j q1 q2
    have := hm3 (j - sb) (by omega) (by omega)
    rw [show sb + (j - sb) = j by omega] at this
    simpa [ahead] using this
  by_cases e2 : (m == 0) = true
  · exfalso
    have e2' : m = 0 := by simpa using e2
    have q1 := high2 sb (by omega) (by omega)
    have q2 := high (sb - 1) (by omega) (by omega)
    omega
  rw [if_neg e2]
  have e2' : 0 < m := by
    have : m ≠ 0 := by simpa using e2
    omega
  have hX : ((arrOf st).extract (sa + k) sb).size = na - k := by rw [Array.size_extract]; omega
  have hY : ((arrOf st).extract sb (sb + m)).size = m := by rw [Array.size_extract]; omega
  have nX : ∀ j (hj : j < ((arrOf st).extract (sa + k) sb).size), isNum ((arrOf st).extract (sa + k) sb)[j] := fun j hj => by
    rw [Array.getElem_extract]; exact hn _ _
  have nY : ∀ j (hj : j < ((arrOf st).extract sb (sb + m)).size), isNum ((arrOf st).extract sb (sb + m))[j] := fun j hj => by
    rw [Array.getElem_extract]; exact hn _ _
  have kX : ∀ j, j < na - k → K ((arrOf st).extract (sa + k) sb) j = K (arrOf st) (sa + k + j) := fun j hj => K_extract (by omega) (by omega)
  have kY : ∀ j, j < m → K ((arrOf st).extract sb (sb + m)) j = K (arrOf st) (sb + j) := fun j hj => K_extract (by omega) (by omega)
  have sX : SortedTo ((arrOf st).extract (sa + k) sb) ((arrOf st).extract (sa + k) sb).size := by
    intro p q q1 q2
    rw [hX] at q2
    rw [kX p (by omega), kX q q2]
    exact hs1 _ _ (by omega) (by omega) (by omega)
  have sY : SortedTo ((arrOf st).extract sb (sb + m)) ((arrOf st).extract sb (sb + m)).size := by
    intro p q q1 q2
    rw [hY] at q2
    rw [kY p (by omega), kY q q2]
    exact hs2 _ _ (by omega) (by omega) (by omega)
  have hfirst : K ((arrOf st).extract sb (sb + m)) 0 < K ((arrOf st).extract (sa + k) sb) 0 := by
    rw [kX 0 (by omega), kY 0 e2']
    exact high _ (by omega) (by omega)
  have hlast : ∀ j, j < ((arrOf st).extract sb (sb + m)).size → K ((arrOf st).extract sb (sb + m)) j < K ((arrOf st).extract (sa + k) sb) (((arrOf st).extract (sa + k) sb).size - 1) := by
    intro j hj
    rw [hY] at hj
    rw [hX, kX _ (by omega), kY j hj, show sa + k + (na - k - 1) = sb - 1 by omega]
    exact low2 _ (by omega) (by omega)
  -- whatever a merge gives
  have hend : ∀ (r : Array Keyed) (st' : SortSt), Same st0 st' → r.toList.Perm (((arrOf st).extract (sa + k) sb).toList ++ ((arrOf st).extract sb (sb + m)).toList) → SL r.toList →
      Q true (SortSt.mk' (kindOf st') (put (sa + k) r.toList 0 (arrOf st')) (pendingOf st') (gallopOf st') (failedOf st')) := by
    intro r st' hs hp hr
    have a1 : arrOf st' = arrOf st := hs.arr.trans a0
    have hlen : r.toList.length = na - k + m := by
      rw [hp.length_eq, List.length_append, Array.length_toList, Array.length_toList, hX, hY]
    have hle : sa + k + r.toList.length ≤ (arrOf st).size := by omega
    have hrsz : r.size = na - k + m := by rw [← Array.length_toList]; exact hlen
    have hrs : SortedTo r r.size := of_sl hr
    have kr : ∀ j, sa + k ≤ j → j < sb + m → K (put (sa + k) r.toList 0 (arrOf st)) j = K r (j - (sa + k)) := by
      intro j q1 q2
      refine K_congr ?_
      rw [put_get (sa + k) r.toList 0 _ hle, if_pos (by omega), Array.getElem?_toList]; rfl
    have ko : ∀ j, j < sa + k ∨ sb + m ≤ j → (put (sa + k) r.toList 0 (arrOf st))[j]? = (arrOf st)[j]? := by
      intro j q
      rw [put_get (sa + k) r.toList 0 _ hle, if_neg (by omega)]
    have hin : ∀ j, j < r.size → K (arrOf st) sb ≤ K r j ∧ K r j ≤ K (arrOf st) (sb - 1) := by
      intro j hj
      rw [K_at hj]
      have hm : r[j] ∈ r.toList := by simp
      rcases List.mem_append.mp (hp.mem_iff.mp hm) with hx | hx
      · obtain ⟨p, hp1, hp2, hp3, e⟩ := mem_extract hx
        rw [e, ← K_at hp3]
        exact ⟨Int.le_of_lt (high p hp1 hp2), hs1 _ _ (by omega) (by omega) (by omega)⟩
      · obtain ⟨p, hp1, hp2, hp3, e⟩ := mem_extract hx
        rw [e, ← K_at hp3]
        exact ⟨hs2 _ _ (by omega) (by omega) (by omega), Int.le_of_lt (low2 p hp1 hp2)⟩
    refine h _ (hs.kind.trans k0) (hs.failed.trans f0) ?_ (hs.pend.trans p0) ?_ ?_
    · show (put (sa + k) r.toList 0 (arrOf st')).Perm (arrOf st)
      rw [a1, Array.perm_iff_toList_perm, put_list hle, hlen, show sa + k + (na - k + m) = sb + m by omega]
      have c := cut3 (a := arrOf st) (i := sa + k) (j := sb) (k := sb + m) (by omega) (by omega)
      have q : ((arrOf st).toList.take (sa + k) ++ r.toList ++ (arrOf st).toList.drop (sb + m)).Perm ((arrOf st).toList.take (sa + k) ++ (((arrOf st).extract (sa + k) sb).toList ++ ((arrOf st).extract sb (sb + m)).toList) ++ (arrOf st).toList.drop (sb + m)) :=
        List.Perm.append_right _ (List.Perm.append_left _ hp)
      rwa [← c] at q
    · intro j q
      show (put (sa + k) r.toList 0 (arrOf st'))[j]? = _
      rw [a1]
      exact ko j (by omega)
    · show Seg (put (sa + k) r.toList 0 (arrOf st')) sa (sb + nb)
      rw [a1]
      intro p q q1 q2 q3
      by_cases c1 : q < sa + k
      · rw [K_congr (ko p (by omega)), K_congr (ko q (by omega))]
        exact hs1 _ _ q1 q2 (by omega)
      by_cases c2 : q < sb + m
      · rw [kr q (by omega) c2]
        by_cases c3 : p < sa + k
        · rw [K_congr (ko p (by omega))]
          exact Int.le_trans (low p q1 c3) (hin _ (by omega)).1
        · rw [kr p (by omega) (by omega)]
          exact hrs _ _ (by omega) (by omega)
      · rw [K_congr (ko q (by omega))]
        by_cases c3 : p < sa + k
        · rw [K_congr (ko p (by omega))]
          exact Int.le_trans (low p q1 c3) (hs2 _ _ (by omega) (by omega) q3)
        by_cases c4 : p < sb + m
        · rw [kr p (by omega) c4]
          exact Int.le_trans (hin _ (by omega)).2 (high2 q (by omega) q3)
        · rw [K_congr (ko p (by omega))]
          exact hs2 _ _ (by omega) q2 q3
  have htail : ∀ (r : Array Keyed) (st' : SortSt), Same st0 st' → r.toList.Perm (((arrOf st).extract (sa + k) sb).toList ++ ((arrOf st).extract sb (sb + m)).toList) → SL r.toList →
      wpS (model prog w) A E s (do
        modify fun s => SortSt.mk' (kindOf s) (put (sa + k) r.toList 0 (arrOf s)) (pendingOf s) (gallopOf s) (failedOf s)
        let s ← get
        pure (failedOf s).isNone) Q st' := by
    intro r st' hs hp hr
    refine wpS_bind (wpS_modify (wpS_bind (wpS_get (wpS_pure ?_))))
    have := hend r st' hs hp hr
    have e : (failedOf (SortSt.mk' (kindOf st') (put (sa + k) r.toList 0 (arrOf st')) (pendingOf st') (gallopOf st') (failedOf st'))).isNone = true := by
      show (failedOf st').isNone = true
      rw [hs.failed, f0]; rfl
    rw [e]
    exact this
  by_cases hle : na - k ≤ m
  · rw [if_pos hle]
    refine wpS_bind (mergeLo_S (a := (arrOf st).extract (sa + k) sb) (b := (arrOf st).extract sb (sb + m)) hk0 nX nY sX sY (by rw [hX]; omega) (by rw [hY]; omega) ?_ ?_ fun r st' a b c => htail r st' a b c)
    all_goals first | exact hfirst | exact Int.le_of_lt hfirst | exact hlast | exact fun j hj => Int.le_of_lt (hlast j hj)
  · rw [if_neg hle]
    refine wpS_bind (mergeHi_S (a := (arrOf st).extract (sa + k) sb) (b := (arrOf st).extract sb (sb + m)) hk0 nX nY sX sY (by rw [hX]; omega) (by rw [hY]; omega) ?_ ?_ fun r st' a b c => htail r st' a b c)
    all_goals first | exact hfirst | exact Int.le_of_lt hfirst | exact hlast | exact fun j hj => Int.le_of_lt (hlast j hj)
end
end Mine.Srt
end
section
open PySem PyProof.Rows
namespace Mine.Srt
local macro_rules | `(tactic| omega) => `(tactic| lia)
set_option autoImplicit false
abbrev Run := Nat × Nat × Nat
/-- runs that lie end to end from a to b, each one sorted -/
noncomputable def Chain (xs : Array Keyed) : List Run → Nat → Nat → Prop
  | [], a, b => a = b
  | (s, n, _) :: r, a, b => s = a ∧ 1 ≤ n ∧ Seg xs a (a + n) ∧ Chain xs r (a + n) b
theorem Chain.len {xs : Array Keyed} : ∀ {l : List Run} {a b : Nat}, Chain xs l a b → a + l.length ≤ b
  | [], a, b, h => by simp only [Chain] at h; simp [h]
  | (s, n, p) :: r, a, b, h => by
    obtain ⟨_, h1, _, h3⟩ := h
    have := Chain.len h3
    simp only [List.length_cons]; omega
theorem Chain.congr {xs ys : Array Keyed} : ∀ {l : List Run} {a b : Nat}, Chain xs l a b → (∀ k, a ≤ k → k < b → ys[k]? = xs[k]?) → Chain ys l a b
  | [], a, b, h, _ => h
  | (s, n, p) :: r, a, b, h, e => by
    obtain ⟨h0, h1, h2, h3⟩ := h
    have hl := h3.len
    refine ⟨h0, h1, fun p q q1 q2 q3 => ?_, h3.congr fun k q1 q2 => e k (by omega) q2⟩
    rw [K_congr (e p (by omega) (by omega)), K_congr (e q (by omega) (by omega))]
    exact h2 p q q1 q2 q3
theorem Chain.append {xs : Array Keyed} : ∀ {l l' : List Run} {a b : Nat}, Chain xs (l ++ l') a b ↔ ∃ m, Chain xs l a m ∧ Chain xs l' m b
  | [], l', a, b => ⟨fun h => ⟨a, rfl, h⟩, fun ⟨m, h1, h2⟩ => by simp only [Chain] at h1; subst h1; exact h2⟩
  | (s, n, p) :: r, l', a, b => by
    show (s = a ∧ 1 ≤ n ∧ Seg xs a (a + n) ∧ Chain xs (r ++ l') (a + n) b) ↔ _
    rw [Chain.append]
    exact ⟨fun ⟨h0, h1, h2, m, h3, h4⟩ => ⟨m, ⟨h0, h1, h2, h3⟩, h4⟩, fun ⟨m, ⟨h0, h1, h2, h3⟩, h4⟩ => ⟨h0, h1, h2, m, h3, h4⟩⟩
theorem Chain.modify {xs : Array Keyed} {f : Run → Run} (hf : ∀ r, (f r).1 = r.1 ∧ (f r).2.1 = r.2.1) : ∀ {l : List Run} {i a b : Nat}, Chain xs l a b → Chain xs (l.modify i f) a b
  | [], i, a, b, h => by rw [List.modify_nil]; exact h
  | (s, n, p) :: r, 0, a, b, h => by
    obtain ⟨h0, h1, h2, h3⟩ := h
    rw [List.modify_zero_cons]
    obtain ⟨e1, e2⟩ := hf (s, n, p)
    rcases hq : f (s, n, p) with ⟨s', n', p'⟩
    rw [hq] at e1 e2
    subst e1; subst e2
    exact ⟨h0, h1, h2, h3⟩
  | (s, n, p) :: r, i + 1, a, b, h => by
    obtain ⟨h0, h1, h2, h3⟩ := h
    rw [List.modify_succ_cons]
    exact ⟨h0, h1, h2, h3.modify hf⟩
/-- what holds between the turns -/
structure J (a₀ : Array Keyed) (lo : Nat) (st : SortSt) : Prop where
  kind : kindOf st = oneType'
  failed : failedOf st = none
  perm : (arrOf st).Perm a₀
  chain : Chain (arrOf st) (pendingOf st).toList 0 lo
theorem J.size {a₀ : Array Keyed} {lo : Nat} {st : SortSt} (h : J a₀ lo st) : (arrOf st).size = a₀.size := h.perm.size_eq
theorem seg_join {xs : Array Keyed} {a b : Nat} (h : a = b) : Seg xs a b := fun p q h1 h2 h3 => by omega
section
variable {prog : Program} {w : World} {A : Around} {E : Value → Shared → Prop} {s : Shared} {a₀ : Array Keyed}
theorem mergeAt_J {st : SortSt} {i lo : Nat} {Q : Bool → SortSt → Prop} (hn : Nums a₀) (hJ : J a₀ lo st) (hlo : lo ≤ a₀.size) (hi : i + 1 < (pendingOf st).size)
    (h : ∀ st', J a₀ lo st' → (pendingOf st').size + 1 = (pendingOf st).size → (∀ k, lo ≤ k → (arrOf st')[k]? = (arrOf st)[k]?) → Q true st') : wpS (model prog w) A E s (mergeAt' i) Q st := by
  have hi0 : i < (pendingOf st).size := by omega
  obtain ⟨⟨sa, na, pa⟩, ex⟩ : ∃ x, (pendingOf st)[i] = x := ⟨_, rfl⟩
  obtain ⟨⟨sb, nb, pb⟩, ey⟩ : ∃ x, (pendingOf st)[i + 1] = x := ⟨_, rfl⟩
  have hl : (pendingOf st).toList = (pendingOf st).toList.take i ++ (sa, na, pa) :: (sb, nb, pb) :: (pendingOf st).toList.drop (i + 2) := by
    conv => lhs; rw [← List.take_append_drop i (pendingOf st).toList]
    congr 1
    rw [List.drop_eq_getElem_cons (by simpa using hi0), List.drop_eq_getElem_cons (by simpa using hi)]
    simp only [Array.getElem_toList, ex, ey]
  have hc := hJ.chain
  rw [hl, Chain.append] at hc
  obtain ⟨m, hc1, e1, h1, hs1, e2, h2, hs2, hc2⟩ := hc
  subst e1
  have hlen := hc2.len
  have hsz := hJ.size
  refine mergeAt_S (sa := sa) (na := na) (pa := pa) (sb := sb) (nb := nb) (pb := pb) hJ.kind (hn.perm hJ.perm) hJ.failed (by rw [getElem?_pos (pendingOf st) i hi0, ex]) (by rw [getElem?_pos (pendingOf st) (i + 1) hi, ey]) e2 h1 h2 (by omega) (by rw [e2]; exact hs1) (by rw [e2]; exact hs2)
    fun st' k1 k2 k3 k4 k5 k6 => ?_
  have hl' : (pendingOf st').toList = (pendingOf st).toList.take i ++ (sa, na + nb, pa) :: (pendingOf st).toList.drop (i + 2) := by
    rw [k4, Array.toList_eraseIdxIfInBounds, Array.toList_setIfInBounds]
    have el : ((pendingOf st).toList.take i).length = i := by simp; omega
    generalize (pendingOf st).toList.take i = T at hl el ⊢
    generalize (pendingOf st).toList.drop (i + 2) = D at hl ⊢
    rw [hl]
    rw [List.set_append, if_neg (by omega), el, Nat.sub_self, List.set_cons_zero]
    rw [List.eraseIdx_append_of_length_le (by omega), el, show i + 1 - i = 1 by omega]
    rfl
  have hsz' : (pendingOf st').size + 1 = (pendingOf st).size := by
    rw [← Array.length_toList, ← Array.length_toList, hl']
    conv => rhs; rw [hl]
    simp only [List.length_append, List.length_cons]; omega
  refine h st' ⟨k1.trans hJ.kind, k2, k3.trans hJ.perm, ?_⟩ hsz' fun k q => k5 k (.inr (by omega))
  rw [hl', Chain.append]
  refine ⟨sa, hc1.congr fun k q1 q2 => k5 k (.inl q2), rfl, by omega, ?_, ?_⟩
  · rw [show sa + (na + nb) = sb + nb by omega]; exact k6
  · rw [show sa + (na + nb) = sa + na + nb by omega]
    exact hc2.congr fun k q1 q2 => k5 k (.inr (by omega))
theorem sortRuns_S {st : SortSt} {Q : Unit → SortSt → Prop} (hn : Nums a₀) (hk : kindOf st = oneType') (hf : failedOf st = none) (hp : arrOf st = a₀) (he : pendingOf st = #[])
    (h : ∀ st', (arrOf st').Perm a₀ → failedOf st' = none → SortedTo (arrOf st') a₀.size → Q () st') : wpS (model prog w) A E s sortRuns' Q st := by
  have hJ0 : J a₀ 0 st := ⟨hk, hf, by rw [hp], by rw [he]; rfl⟩
  rw [sortRuns'_eq]
  refine wpS_bind (wpS_get ?_)
  dsimp only
  rw [hJ0.size]
  generalize minRun' a₀.size a₀.size 0 = minrun
  refine wpS_bind (wpS_mono (wpS_forRange (I := fun x c st' => ∃ lo, c = (none, lo) ∧ J a₀ lo st' ∧ lo ≤ a₀.size ∧ min x a₀.size ≤ lo)
    (Q := fun c st' => c = (none, a₀.size) ∧ J a₀ a₀.size st') ?step ?fin ⟨0, rfl, hJ0, by omega, by omega⟩) ?post)
  case fin =>
    rintro c st' ⟨lo, rfl, hJ, h1, h2⟩
    have : lo = a₀.size := by omega
    subst this
    exact ⟨rfl, hJ⟩
  case step =>
    rintro x c st' _ hx ⟨lo, rfl, hJ, h1, h2⟩
    dsimp only
    by_cases hge : lo ≥ a₀.size
    · rw [if_pos hge]
      have : lo = a₀.size := by omega
      subst this
      exact wpS_pure ⟨rfl, hJ⟩
    rw [if_neg hge]
    -- what is done with a run
    have hpush : ∀ (n : Nat) (st2 : SortSt), J a₀ lo st2 → 1 ≤ n → lo + n ≤ a₀.size → Seg (arrOf st2) lo (lo + n) →
        (∃ lo', (none, lo + n) = ((none : Option Unit), lo') ∧ J a₀ lo' (setPending st2 ((pendingOf st2).push (lo, n, 0))) ∧ lo' ≤ a₀.size ∧ min (x + 1) a₀.size ≤ lo') := by
      intro n st2 hJ2 q1 q2 q3
      refine ⟨lo + n, rfl, ⟨hJ2.kind, hJ2.failed, hJ2.perm, ?_⟩, q2, by omega⟩
      show Chain (arrOf st2) ((pendingOf st2).push (lo, n, 0)).toList 0 (lo + n)
      rw [Array.toList_push, Chain.append]
      exact ⟨lo, hJ2.chain, rfl, q1, q3, rfl⟩
    have hsz := hJ.size
    refine wpS_bind (countRun_S hJ.kind (hn.perm hJ.perm) (by omega) (by omega) fun m st2 hR hm1 hm2 hseg => ?_)
    have hJ2 : J a₀ lo st2 := ⟨hR.kind.trans hJ.kind, hR.failed.trans hJ.failed, hR.perm.trans hJ.perm, by
      rw [hR.pend]; exact hJ.chain.congr fun k _ q => hR.low k q⟩
    dsimp only
    by_cases hlt : m < minrun
    case' pos =>
      rw [if_pos hlt]
      refine wpS_bind (wpS_lift (wpAny_rule ⟨rfl, ?_⟩))
      have hsz2 := hJ2.size
      refine wpS_bind (binarySort_S hJ2.kind (hn.perm hJ2.perm) (by omega) (by omega) hseg fun st3 hR3 hs3 => ?_)
      have hJ3 : J a₀ lo st3 := ⟨hR3.kind.trans hJ2.kind, hR3.failed.trans hJ2.failed, hR3.perm.trans hJ2.perm, by
        rw [hR3.pend]; exact hJ2.chain.congr fun k _ q => hR3.low k q⟩
      simp only [Bool.not_true, Bool.false_eq_true, if_false]
      have q1 : 1 ≤ min (a₀.size - lo) minrun := by omega
      have q2 : lo + min (a₀.size - lo) minrun ≤ a₀.size := by omega
      clear hR hJ2 hseg hR3 hsz2 hJ
      generalize min (a₀.size - lo) minrun = n at q1 q2 hs3 ⊢
    case' neg =>
      rw [if_neg hlt]
      have q1 : 1 ≤ m := hm1
      have q2 : lo + m ≤ a₀.size := by omega
      have hs3 := hseg
      have hJ3 := hJ2
      clear hR hJ2 hJ hseg
      generalize st2 = st3 at hJ3 hs3 ⊢
      generalize m = n at q1 q2 hs3 ⊢
    all_goals
      refine wpS_bind (wpS_get ?_)
      rcases hb : (pendingOf st3).back? with _ | ⟨s1, n1, p1⟩
      · dsimp only
        exact wpS_bind (wpS_modify (wpS_pure (hpush n st3 hJ3 q1 q2 hs3)))
      · dsimp only
        refine wpS_bind (wpS_mono (wpS_forRange (I := fun _ c st4 => c = (none, ()) ∧ J a₀ lo st4 ∧ Seg (arrOf st4) lo (lo + n))
          (Q := fun c st4 => c = (none, ()) ∧ J a₀ lo st4 ∧ Seg (arrOf st4) lo (lo + n)) ?istep (fun c st4 hh => hh) ⟨rfl, hJ3, hs3⟩) ?ipost)
        case istep =>
          rintro y c st4 _ hy ⟨rfl, hJ4, q4⟩
          refine wpS_bind (wpS_get ?_)
          by_cases c1 : (pendingOf st4).size > 1
          · rw [if_pos c1]
            rcases hb : (pendingOf st4)[(pendingOf st4).size - 2]? with _ | ⟨s2, n2, p2⟩
            · exact wpS_pure ⟨rfl, hJ4, q4⟩
            · dsimp only
              by_cases c2 : p2 ≤ power' a₀.size (2 * s1 + n1) (2 * s1 + n1 + n1 + n) a₀.size
              · rw [if_pos c2]
                exact wpS_pure ⟨rfl, hJ4, q4⟩
              · rw [if_neg c2]
                refine wpS_bind (mergeAt_J hn hJ4 h1 (by omega) fun st5 hJ5 _ e5 => ?_)
                simp only [Bool.not_true, Bool.false_eq_true, if_false]
                refine wpS_pure ⟨rfl, hJ5, fun p q w1 w2 w3 => ?_⟩
                rw [K_congr (e5 p (by omega)), K_congr (e5 q (by omega))]
                exact q4 p q w1 w2 w3
          · rw [if_neg c1]
            exact wpS_pure ⟨rfl, hJ4, q4⟩
        case ipost =>
          rintro c st4 ⟨rfl, hJ4, q4⟩
          dsimp only
          refine wpS_bind (wpS_modify (wpS_bind (wpS_modify (wpS_pure ?_))))
          refine hpush n (setPending st4 _) ⟨hJ4.kind, hJ4.failed, hJ4.perm, ?_⟩ q1 q2 q4
          show Chain (arrOf st4) ((pendingOf st4).modify _ _).toList 0 lo
          rw [Array.toList_modify]
          refine Chain.modify (fun r => ?_) hJ4.chain
          exact ⟨rfl, rfl⟩
  case post =>
    rintro c st' ⟨rfl, hJ⟩
    dsimp only
    have hpl : (pendingOf st').size ≤ a₀.size := by
      have := hJ.chain.len
      rw [Array.length_toList] at this
      omega
    refine wpS_bind (wpS_mono (wpS_forRange (I := fun x c st4 => c = (none, ()) ∧ J a₀ a₀.size st4 ∧ x + (pendingOf st4).size ≤ a₀.size + 1)
      (Q := fun c st4 => c = (none, ()) ∧ J a₀ a₀.size st4 ∧ (pendingOf st4).size ≤ 1) ?istep ?ifin ⟨rfl, hJ, by omega⟩) ?ipost)
    case ifin =>
      rintro c st4 ⟨rfl, hJ4, q⟩
      exact ⟨rfl, hJ4, by omega⟩
    case istep =>
      rintro y c st4 _ hy ⟨rfl, hJ4, q4⟩
      refine wpS_bind (wpS_get ?_)
      by_cases c1 : (pendingOf st4).size ≤ 1
      · rw [if_pos c1]
        exact wpS_pure ⟨rfl, hJ4, c1⟩
      · rw [if_neg c1]
        have hany : ∀ i, i + 1 < (pendingOf st4).size → wpS (model prog w) A E s (mergeAt' i) (fun b st5 => b = true ∧ J a₀ a₀.size st5 ∧ y + 1 + (pendingOf st5).size ≤ a₀.size + 1) st4 :=
          fun i hi => mergeAt_J hn hJ4 (Nat.le_refl _) hi fun st5 hJ5 e5 _ => ⟨rfl, hJ5, by omega⟩
        refine wpS_bind (wpS_mono (hany _ ?_) ?_)
        · repeat' split
          all_goals omega
        · rintro b st5 ⟨rfl, hJ5, q5⟩
          simp only [Bool.not_true, Bool.false_eq_true, if_false]
          exact wpS_pure ⟨rfl, hJ5, q5⟩
    case ipost =>
      rintro c st4 ⟨rfl, hJ4, q4⟩
      refine wpS_pure (h st4 hJ4.perm hJ4.failed ?_)
      have hc := hJ4.chain
      have hl := Array.length_toList (xs := pendingOf st4)
      match hq : (pendingOf st4).toList, hc with
      | [], hc =>
        simp only [Chain] at hc
        intro i j _ q2
        omega
      | [(s1, n1, p1)], hc =>
        obtain ⟨_, _, hs, he⟩ := hc
        simp only [Chain] at he
        intro i j q1 q2
        exact hs i j (Nat.zero_le _) q1 (by omega)
      | _ :: _ :: _, hc =>
        rw [hq] at hl
        simp only [List.length_cons] at hl
        omega
end
end Mine.Srt
end
section
open PySem PyProof.Rows
namespace Mine.Srt
set_option autoImplicit false
section
variable {prog : Program} {w : World} {A : Around} {E : Value → Shared → Prop} {s : Shared}
theorem nums_of {vs : List Value} {ns : List Int} (hI : IntsAre vs ns) : Nums (pairsOf vs) := by
  intro i hi
  have := hI.intKeys ((pairsOf vs)[i]) (by simp)
  exact this
theorem listSort_S {a : Addr} {vs : List Value} {ns : List Int} {n : Nat} {P : Fin → Shared → Prop} (ho : s.heap.get? a = some (seqObj "list" vs.toArray n))
    (hI : IntsAre vs ns) (hbig : vs.length ≤ sizeLine)
    (h : ∀ (out : Array Value) (ns' : List Int), IntsAre out.toList ns' → ns'.Perm ns → ns'.Pairwise (· ≤ ·) → P (.done (.ret .none)) { s with heap := sortedHeap s.heap a vs out }) :
    wpAny (model prog w) A (Builtin.«list.sort» ⟨[.ref a], []⟩) P E s := by
  rw [list_sort_plain]
  have ha : a < s.heap.objs.size := Heap.lt_size ho
  refine wpAny_bind (listItems_at ho rfl ?_)
  refine wpAny_bind (listUpdate_at ho rfl ?_)
  obtain ⟨e1, ho1⟩ : ∃ e1, (s.heap.update a (Obj.mapSeq fun _ => #[])).get? a = some (seqObj "list" #[] e1) := ⟨_, get?_update_seq ho (fun _ => #[])⟩
  refine wpAny_bind (seqEpoch_at ho1 rfl ?_)
  refine wpAny_bind (wpAny_newTuple ?_)
  refine wpAny_bind (wpAny_newList ?_)
  refine wpAny_holding ?_
  have ho6 : (((s.heap.update a (Obj.mapSeq fun _ => #[])).push (seqObj "tuple" vs.toArray 0)).push (seqObj "list" #[] 0)).get? a = some (seqObj "list" #[] e1) := by
    rw [Heap.get?_push_ne _ _ _ (by rw [size_push', Heap.size_update]; exact Nat.ne_of_lt (Nat.lt_succ_of_lt ha)), Heap.get?_push_ne _ _ _ (by rw [Heap.size_update]; exact Nat.ne_of_lt ha)]
    exact ho1
  show wpAny (model prog w) A _ P E { s with heap := ((s.heap.update a (Obj.mapSeq fun _ => #[])).push (seqObj "tuple" vs.toArray 0)).push (seqObj "list" #[] 0) }
  dsimp only
  have hsz : vs.toArray.size = vs.length := by simp
  have fin : ∀ st' : SortSt, (arrOf st').Perm (pairsOf vs) → SortedTo (arrOf st') (pairsOf vs).size →
      P (.done (.ret .none)) { s with heap := sortedHeap s.heap a vs ((arrOf st').map (·.2)) } := by
    intro st' hp hs
    obtain ⟨ns', h1, h2, h3⟩ := sorted_out hI hp hs
    exact h _ ns' h1 h2 h3
  by_cases h2 : vs.toArray.size < 2
  · rw [if_pos h2, if_pos h2]
    refine wpAny_bind (wpAny_pure ?_)
    rw [StateT.run_pure]
    refine wpAny_bind (wpAny_pure ?_)
    dsimp only
    refine wpAny_bind (seqEpoch_at ho6 rfl ?_)
    refine wpAny_bind (listUpdate_at ho6 rfl ?_ (hsz2 := by rw [Array.size_map]; show (pairsOf vs).size ≤ _; rw [pairsOf_size]; omega))
    simp only [bne_self_eq_false, Bool.false_eq_true, if_false]
    refine wpAny_pure (fin (SortSt.mk' general' (vs.toArray.zip vs.toArray) #[] 7 none) (Array.Perm.refl _) ?_)
    intro i j hij hj
    have : i = j := by rw [pairsOf_size] at hj; omega
    subst this; exact Int.le_refl _
  · rw [if_neg h2, if_neg h2]
    obtain ⟨v₁, v₂, rest, rfl⟩ : ∃ v₁ v₂ rest, vs = v₁ :: v₂ :: rest := by
      match vs, hsz, h2 with
      | [], _, h2 => simp at h2
      | [_], _, h2 => simp at h2
      | v₁ :: v₂ :: rest, _, _ => exact ⟨v₁, v₂, rest, rfl⟩
    rw [keyKind_ints hI]
    refine wpAny_bind (wpAny_pure ?_)
    refine wpAny_bind (wpAny_mono (sortRuns_S (a₀ := pairsOf (v₁ :: v₂ :: rest)) (st := SortSt.mk' oneType' ((v₁ :: v₂ :: rest).toArray.zip (v₁ :: v₂ :: rest).toArray) #[] 7 none)
      (Q := fun _ st' => (arrOf st').Perm (pairsOf (v₁ :: v₂ :: rest)) ∧ failedOf st' = none ∧ SortedTo (arrOf st') (pairsOf (v₁ :: v₂ :: rest)).size)
      (nums_of hI) rfl rfl rfl rfl fun st' a1 a2 a3 => ⟨a1, a2, a3⟩) ?_ fun _ _ e => e)
    rintro ⟨⟨⟩, st'⟩ s' ⟨rfl, hp, hf, hs⟩
    dsimp only
    refine wpAny_bind (seqEpoch_at ho6 rfl ?_)
    refine wpAny_bind (listUpdate_at ho6 rfl ?_ (hsz2 := by refine Nat.le_trans (Nat.le_of_eq ((Array.size_map ..).trans (hp.size_eq.trans (pairsOf_size _)))) ?_; omega))
    rw [hf]
    simp only [bne_self_eq_false, Bool.false_eq_true, if_false]
    exact wpAny_pure (fin st' hp hs)
/-- sorted over ints, of any length that the model can hold -/
theorem sortedInts_S {l : Addr} {vs : List Value} {ns : List Int} {Q : Value → Shared → Prop} (hl : s.heap.IsList l vs.toArray) (hI : IntsAre vs ns) (hbig : vs.length ≤ sizeLine)
    (h : ∀ (out : Array Value) (ns' : List Int), IntsAre out.toList ns' → ns'.Perm ns → ns'.Pairwise (· ≤ ·) → Q (.ref (s.heap.objs.size + 1)) { s with heap := sortedAll s.heap vs out }) :
    wpAny (model prog w) A (call (.builtin "sorted") [.ref l]) Q E s := by
  refine Calls.call_function_entry kind_sorted plain_sorted entry_sorted (args_sorted1 _) ?_
  unfold Builtin.«sorted»
  refine wpAny_bind (m := checkCount "sorted" 1 1 _) (wpAny_pure ?_)
  refine wpAny_bind (collect_list hl ?_ hbig)
  refine wpAny_bind (wpAny_newList ?_)
  have hsz : ((s.heap.push (seqObj "list" #[] 0)).update s.heap.objs.size (Obj.mapSeq (· ++ vs.toArray))).objs.size = s.heap.objs.size + 1 := by
    rw [Heap.size_update, size_push']
  have hoL : (((s.heap.push (seqObj "list" #[] 0)).update s.heap.objs.size (Obj.mapSeq (· ++ vs.toArray))).push (seqObj "list" vs.toArray 0)).get? (s.heap.objs.size + 1) = some (seqObj "list" vs.toArray 0) := by
    rw [← hsz]; exact Heap.get?_push_size _ rfl
  show wpAny _ _ _ _ _ { s with heap := ((s.heap.push (seqObj "list" #[] 0)).update s.heap.objs.size (Obj.mapSeq (· ++ vs.toArray))).push (seqObj "list" vs.toArray 0) }
  rw [hsz]
  refine wpAny_bind (wpAny_holding (wpAny_call_entry slot_list_sort ⟨_, hoL, rfl⟩ entry_list_sort (listSort_S hoL hI hbig fun out ns' a1 a2 a3 => ⟨_, rfl, ?_⟩) (args_list_sort _)))
  exact wpAny_pure ⟨_, rfl, h out ns' a1 a2 a3⟩
theorem sortedN_S {h₀ : Heap} {L : Addr} {m : Str → Option Value} {news : List (Addr × Obj)} {l : Addr} {vs : List Value} {ns : List Int} {Q : Value → Shared → Prop}
    (F : Fr h₀ L s.heap m) (N : News h₀ L s.heap news) (hl : s.heap.IsList l vs.toArray) (hI : IntsAre vs ns) (hbig : vs.length ≤ sizeLine)
    (h : ∀ (h' : Heap) (vs' : List Value) (ns' : List Int) (e : Nat), Fr h₀ L h' m → News h₀ L h' ((s.heap.objs.size + 1, seqObj "list" vs'.toArray e) :: news) →
      IntsAre vs' ns' → ns'.Perm ns → ns'.Pairwise (· ≤ ·) → Q (.ref (s.heap.objs.size + 1)) { s with heap := h' }) :
    wpAny (model prog w) A (call (.builtin "sorted") [.ref l]) Q E s := by
  refine sortedInts_S hl hI hbig fun out ns' a1 a2 a3 => ?_
  obtain ⟨e, he⟩ := sortedAll_at s.heap vs out
  exact h _ out.toList ns' e (F.kept fun _ _ => sortedAll_old) (N.kept_cons F (fun _ _ => sortedAll_old) (Nat.le_succ _) he) a1 a2 a3
end
end Mine.Srt
end
section
open PySem PySem.W PyProof.Rows
set_option autoImplicit false
namespace Mine
abbrev Pr := Int × Int
/-- pairs as data -/
def prD (p : Pr) : Dat := .tuple [.int p.1, .int p.2]
abbrev Led := List (Addr × Obj)
theorem datPr {news : Led} {v : Value} {p : Pr} (h : DatIn news v (prD p)) :
    ∃ (a : Addr) (n : Nat) (t u : Tok), v = .ref a ∧ (a, ({ cls := .type "tuple", data := .seq #[.int p.1 t, .int p.2 u] n } : Obj)) ∈ news := by
  unfold prD at h
  cases h with
  | tuple hm hA =>
    cases hA with
    | cons h1 h2 =>
      cases h2 with
      | cons h2 h3 =>
        cases h3
        cases h1
        cases h2
        exact ⟨_, _, _, _, rfl, hm⟩
theorem prDat {news : Led} {a : Addr} {n : Nat} {p : Pr} {t u : Tok} (h : (a, ({ cls := .type "tuple", data := .seq #[.int p.1 t, .int p.2 u] n } : Obj)) ∈ news) : DatIn news (.ref a) (prD p) :=
  .tuple (vs := [.int p.1 t, .int p.2 u]) h (.cons (.int _ _) (.cons (.int _ _) .nil))
theorem prs_get {news : Led} {vs : List Value} {rs : List Pr} (h : DatAll news vs (rs.map prD)) {i : Nat} {v : Value} (hv : vs[i]? = some v) : ∃ hi : i < rs.length, DatIn news v (prD rs[i]) := by
  have hl := h.length
  rw [List.length_map] at hl
  have hi : i < rs.length := by rw [← hl]; exact (List.getElem?_eq_some_iff.mp hv).1
  refine ⟨hi, ?_⟩
  obtain ⟨v', e, hd⟩ := h.get (k := i) (by rw [List.length_map]; exact hi)
  rw [hv] at e
  cases e
  simpa using hd
section
variable {prog : Program} {w : World} {A : Around} {E : Value → Shared → Prop} {s : Shared} {h₀ : Heap} {L : Addr} {m : Str → Option Value} {env : Env}
theorem endMono {s₁ : Shared} {I C D : Addr} {oI oC oD : Obj} {S : Led → Prop} {r r' : Value → Led → Prop} {y : Value} {s₂ : Shared} (h : LCg.CompEnd h₀ L m s₁ I oI C oC D oD S r y s₂) (k : ∀ n, r y n → r' y n) : LCg.CompEnd h₀ L m s₁ I oI C oC D oD S r' y s₂ := by
  obtain ⟨h', tk, news', e, F, N, o, hS, hr⟩ := h
  exact ⟨h', tk, news', e, F, N, o, hS, k _ hr⟩
theorem endKeep {s₁ : Shared} {I C D : Addr} {oI oC oD : Obj} {S : Led → Prop} {r : Value → Led → Prop} {y : Value} {h' : Heap} {tk : Nat} {news : Led} (F : Fr h₀ L h' m) (N : News h₀ L h' ((I, oI) :: (C, oC) :: (D, oD) :: news)) (off : LCg.Off3 I C D news) (hS : S news) (hr : r y news) :
    LCg.CompEnd h₀ L m s₁ I oI C oC D oD S r y { s₁ with heap := h', toks := tk } := ⟨h', tk, news, rfl, F, N, off, hS, hr⟩
theorem compP_inv {elt : PySem.Expr} {x x₂ : Str} {scope : Scope} {cl : List (Str × Addr)} {S : Led → Prop} {P : Nat → Value → Prop} {Fin : List Value → Led → Prop} (Inv : Nat → List Value → Led → Prop) {n : Nat}
    (hFin : ∀ ys news, Inv n ys news → Fin ys news)
    (turn : ∀ i ys news v, i < n → Inv i ys news → P i v → ∃ (t : Addr) (ot : Obj) (v₁ v₂ : Value) (nt : Nat), v = .ref t ∧ (t, ot) ∈ news ∧ ot.cls = .type "tuple" ∧ ot.data = .seq #[v₁, v₂] nt ∧
      ∀ I oI C oC D m₂ h tk (E' : Value → Shared → Prop), LCg.NsObj oC m₂ → m₂ x = some v₁ → m₂ x₂ = some v₂ → Fr h₀ L h m → News h₀ L h ((I, oI) :: (C, oC) :: (D, LCg.lst ys) :: news) → LCg.Off3 I C D news → ((@Ne Nat I C) ∧ (@Ne Nat I D) ∧ (@Ne Nat C D)) →
      wpAny (model prog w) A (eval elt (compEnvC scope cl C env)) (LCg.CompEnd h₀ L m { s with heap := h, toks := tk } I oI C oC D (LCg.lst ys) S (fun y news' => Inv (i + 1) (ys ++ [y]) news')) E' { s with heap := h, toks := tk }) :
    ∀ k i ys news, i + k = n → Inv i ys news → LCp.CompRestP prog w A h₀ L m env elt x x₂ scope cl s S P Fin k i ys news
  | 0, i, ys, news, hk, hI => LCp.CompRestP.zero (hFin _ _ (by have : i = n := by omega
                                                               rw [← this]; exact hI))
  | k + 1, i, ys, news, hk, hI => by
    refine LCp.CompRestP.succ fun v hv => ?_
    obtain ⟨t, ot, v₁, v₂, nt, e1, e2, e3, e4, go⟩ := turn i ys news v (by omega) hI hv
    refine ⟨t, ot, v₁, v₂, nt, e1, e2, e3, e4, fun I oI C oC D m₂ h tk E' a1 a2 a3 a4 a5 a6 a7 => ?_⟩
    exact wpAny_mono (go I oI C oC D m₂ h tk E' a1 a2 a3 a4 a5 a6 a7) (fun y s' q => endMono q fun n' hn => compP_inv Inv hFin turn k (i + 1) _ _ (by omega) hn) fun _ _ e => e
theorem compU_inv {elt : PySem.Expr} {x : Str} {scope : Scope} {cl : List (Str × Addr)} {S : Led → Prop} {P : Nat → Value → Prop} {Fin : List Value → Led → Prop} (Inv : Nat → List Value → Led → Prop) {n : Nat}
    (hFin : ∀ ys news, Inv n ys news → Fin ys news)
    (turn : ∀ i ys news v, i < n → Inv i ys news → P i v →
      ∀ I oI C oC D m₂ h tk (E' : Value → Shared → Prop), LCg.NsObj oC m₂ → m₂ x = some v → Fr h₀ L h m → News h₀ L h ((I, oI) :: (C, oC) :: (D, LCg.lst ys) :: news) → LCg.Off3 I C D news → ((@Ne Nat I C) ∧ (@Ne Nat I D) ∧ (@Ne Nat C D)) →
      wpAny (model prog w) A (eval elt (compEnvC scope cl C env)) (LCg.CompEnd h₀ L m { s with heap := h, toks := tk } I oI C oC D (LCg.lst ys) S (fun y news' => Inv (i + 1) (ys ++ [y]) news')) E' { s with heap := h, toks := tk }) :
    ∀ k i ys news, i + k = n → Inv i ys news → LCg.CompRest prog w A h₀ L m env elt x scope cl s S P Fin k i ys news
  | 0, i, ys, news, hk, hI => LCg.CompRest.zero (hFin _ _ (by have : i = n := by omega
                                                              rw [← this]; exact hI))
  | k + 1, i, ys, news, hk, hI => by
    refine LCg.CompRest.succ fun v I oI C oC D m₂ h tk E' hv a1 a2 a4 a5 a6 a7 => ?_
    exact wpAny_mono (turn i ys news v (by omega) hI hv I oI C oC D m₂ h tk E' a1 a2 a4 a5 a6 a7) (fun y s' q => endMono q fun n' hn => compU_inv Inv hFin turn k (i + 1) _ _ (by omega) hn) fun _ _ e => e
theorem compT_inv {ct elt : PySem.Expr} {x : Str} {scope : Scope} {cl : List (Str × Addr)} {S : Led → Prop} {P : Nat → Value → Prop} {Fin : List Value → Led → Prop} (Inv : Nat → List Value → Led → Prop) {n : Nat}
    (hFin : ∀ ys news, Inv n ys news → Fin ys news)
    (turn : ∀ i ys news v, i < n → Inv i ys news → P i v →
      ∀ I oI C oC D m₂ h tk (E' : Value → Shared → Prop), LCg.NsObj oC m₂ → m₂ x = some v → Fr h₀ L h m → News h₀ L h ((I, oI) :: (C, oC) :: (D, LCg.lst ys) :: news) → LCg.Off3 I C D news → ((@Ne Nat I C) ∧ (@Ne Nat I D) ∧ (@Ne Nat C D)) →
      wpAny (model prog w) A (isTrue ct (compEnvC scope cl C env) (eval ct (compEnvC scope cl C env))) (fun ok s' => if ok = true then
        wpAny (model prog w) A (eval elt (compEnvC scope cl C env)) (LCg.CompEnd h₀ L m { s with heap := h, toks := tk } I oI C oC D (LCg.lst ys) S (fun y news' => Inv (i + 1) (ys ++ [y]) news')) E' s'
        else LCg.CompEnd h₀ L m { s with heap := h, toks := tk } I oI C oC D (LCg.lst ys) S (fun _ news' => Inv (i + 1) ys news') Value.none s') E' { s with heap := h, toks := tk }) :
    ∀ k i ys news, i + k = n → Inv i ys news → LCt.CompRestT prog w A h₀ L m env ct elt x scope cl s S P Fin k i ys news
  | 0, i, ys, news, hk, hI => LCt.CompRestT.zero (hFin _ _ (by have : i = n := by omega
                                                               rw [← this]; exact hI))
  | k + 1, i, ys, news, hk, hI => by
    refine LCt.CompRestT.succ fun v I oI C oC D m₂ h tk E' hv a1 a2 a4 a5 a6 a7 => ?_
    refine wpAny_mono (turn i ys news v (by omega) hI hv I oI C oC D m₂ h tk E' a1 a2 a4 a5 a6 a7) (fun ok s' q => ?_) fun _ _ e => e
    by_cases hok : ok = true
    · rw [if_pos hok] at q ⊢
      exact wpAny_mono q (fun y s' q => endMono q fun n' hn => compT_inv Inv hFin turn k (i + 1) _ _ (by omega) hn) fun _ _ e => e
    · rw [if_neg hok] at q ⊢
      exact endMono q fun n' hn => compT_inv Inv hFin turn k (i + 1) _ _ (by omega) hn
end
theorem take_step {α : Type} {l : List α} {i : Nat} (hi : i < l.length) : l.take (i + 1) = l.take i ++ [l[i]] := by
  rw [List.take_add_one, List.getElem?_eq_getElem hi]; rfl
end Mine
end
section
open PySem PySem.W PyProof.Rows PySem.Spec
set_option autoImplicit false
namespace Mine
section
variable {prog : Program} {w : World} {A : Around} {E : Value → Shared → Prop} {s : Shared} {h₀ : Heap} {L : Addr} {m : Str → Option Value} {env : Env}
theorem setLast {l : Addr} {ws : List Value} {x v : Value} {n : Nat} {t : Tok} {news : Led} {Q : Unit → Shared → Prop} (F : Fr h₀ L s.heap m) (N : News h₀ L s.heap ((l, W.listOf (ws ++ [x]).toArray n) :: news)) (off : ∀ p ∈ news, p.1 ≠ l) (hbig : ws.length < 2 ^ 40)
    (h : ∀ h', Fr h₀ L h' m → News h₀ L h' ((l, W.listOf (ws ++ [v]).toArray n) :: news) → Q () { s with heap := h' }) : wpAny (model prog w) A (setItem (.ref l) (.int (-1) t) v) Q E s := by
  have z := N (l, W.listOf (ws ++ [x]).toArray n) (.head _)
  have ho := z.1
  have hl : s.heap.IsList l (ws ++ [x]).toArray := PySem.IsL.isList (n := n) ho
  have hsz : (ws ++ [x]).toArray.size = ws.length + 1 := by simp
  unfold setItem
  try with_reducible refine wpAny_holding ?_
  first | refine wpAny_bind (wpAny_pure ?_) | skip
  refine wpAny_bind (wpAny_sequenceKey hl.typeIs (by decide) ?_)
  refine wpAny_bind (wpAny_callSpecial?_slot (name := Str.ofString "__setitem__") hl.typeIs slot_list_setitem
    (wpAny_call_entry slot_list_setitem hl.typeIs entry_list_setitem ?_ (args_list_setitem _ _ _)))
  show wpAny _ _ (Builtin.List.listSubscript? (.int (-1) t) >>= _) _ _ s
  refine wpAny_bind (wpAny_listSubscript_int (fitsIndex_neg (by decide) (by decide)) ?_)
  have hidx : seqIndex? (-1) (ws ++ [x]).toArray.size = some ws.length := by
    rw [seqIndex_neg (by decide) (by rw [hsz]; omega), hsz]
    congr 1
    omega
  have hx : (ws ++ [x]).toArray[ws.length]? = some x := by simp
  show wpAny _ _ ((Builtin.List.listItems (.ref l) >>= fun xs => pure ((seqIndex? (-1) xs.size).bind fun i => xs[i]?.map (i, ·))) >>= _) _ _ s
  refine wpAny_bind (wpAny_bind ?_)
  show wpAny _ _ (seqItems? (.ref l) >>= _) _ _ s
  refine wpAny_bind (wpAny_seqItems ho rfl (wpAny_pure (wpAny_pure ?_)))
  rw [hidx]
  simp only [Option.bind_some, hx, Option.map_some]
  have hQ : Q () { s with heap := s.heap.update l (Obj.mapSeq (·.setIfInBounds ws.length v)) } := by
    refine h _ (F.change (Heap.SameBut.update ..) z.2.1 z.2.2) ?_
    have := ki_turn (pre := []) (post := news) (·.setIfInBounds ws.length v) (its := (ws ++ [x]).toArray) (its' := (ws ++ [v]).toArray) (n' := n) N (fun _ h => nomatch h) off (by simp) (by simp)
    exact this
  show wpAny _ _ (setSeqItemAt l ws.length v >>= _) _ _ s
  refine wpAny_bind (wpAny_setSeqItemAt ho rfl ?_)
  first
    | exact wpAny_bind (wpAny_pure (wpAny_pure ⟨.none, rfl, wpAny_pure hQ⟩))
    | exact wpAny_pure ⟨.none, rfl, wpAny_pure hQ⟩
end
def prP (p : Pr) : PyData := .tuple [.int p.1, .int p.2]
theorem pr_canLayAll : ∀ rs : List Pr, PyData.canLayAll0 (rs.map prP) = true
  | [] => rfl
  | p :: r => by
    simp only [List.map_cons, PyData.canLayAll0, pr_canLayAll r, Bool.and_true]
    simp [prP, PyData.canLay0, PyData.canLayAll0]
theorem pr_depthAll : ∀ rs : List Pr, PyData.depthAll (rs.map prP) ≤ 1
  | [] => Nat.zero_le _
  | p :: r => by
    simp only [List.map_cons, PyData.depthAll]
    have := pr_depthAll r
    have e : PyData.depth (prP p) = 1 := by simp [prP, PyData.depth, PyData.depthAll]
    rw [e]; omega
theorem pr_shaped (rs : List Pr) : SeqAt.shaped (.list (rs.map prP)) = true := by
  have := pr_depthAll rs
  simp [SeqAt.shaped, PyData.canLay0, PyData.depth, pr_canLayAll]
  omega
theorem pr_sameAll : ∀ rs qs : List Pr, PySem.Spec.sameAll (rs.map prP) (qs.map prP) = decide (rs = qs)
  | [], [] => by simp [PySem.Spec.sameAll]
  | [], _ :: _ => by simp [PySem.Spec.sameAll]
  | _ :: _, [] => by simp [PySem.Spec.sameAll]
  | (a, b) :: r, (c, d) :: q => by
    simp only [List.map_cons, PySem.Spec.sameAll, pr_sameAll r q]
    have e : PySem.Spec.same (prP (a, b)) (prP (c, d)) = decide ((a, b) = (c, d)) := by
      simp only [prP, PySem.Spec.same, PySem.Spec.sameAll, Bool.and_true]
      by_cases h : a = c <;> by_cases h' : b = d <;> simp [h, h']
    rw [e]
    by_cases h : (a, b) = (c, d) <;> by_cases h' : r = q <;> simp [h, h']
theorem pr_same (rs qs : List Pr) : PySem.Spec.same (.list (rs.map prP)) (.list (qs.map prP)) = decide (rs = qs) := by
  simp only [PySem.Spec.same]; exact pr_sameAll rs qs
theorem pr_has (p : Pr) : (Shape.tuple [.int, .int]).has (prP p) = true := by
  simp [prP, Shape.has, Shape.hasAll]
theorem prs_reads {h₀ h : Heap} {L : Addr} {news : Led} (N : News h₀ L h news) : ∀ {vs : List Value} {rs : List Pr}, DatAll news vs (rs.map prD) → ∃ as, ReadsAll h vs (rs.map prP) as
  | _, [], h => by cases h; exact ⟨_, .nil⟩
  | _, p :: r, h => by
    cases h with
    | cons h1 h2 =>
      obtain ⟨as, ha⟩ := prs_reads N h2
      obtain ⟨a, n, t, u, rfl, hm⟩ := datPr h1
      exact ⟨_, .cons (reads_tuple_at (N _ hm).1 rfl rfl (.cons (.int _ _) (.cons (.int _ _) .nil))) ha⟩
section
variable {prog : Program} {w : World} {A : Around} {E : Value → Shared → Prop} {s : Shared} {h₀ : Heap} {L : Addr}
theorem ne_pairs {news : Led} {a b : Addr} {vs us : List Value} {n k : Nat} {rs qs : List Pr} {Q : Value → Shared → Prop} (N : News h₀ L s.heap news) (ha : (a, W.listOf vs.toArray n) ∈ news) (hA : DatAll news vs (rs.map prD)) (hb : (b, W.listOf us.toArray k) ∈ news) (hB : DatAll news us (qs.map prD)) (hu : A.units + 64 < cLine)
    (h : Q (.bool (!decide (rs = qs))) s) : wpAny (model prog w) A (compareOp .NotEq (.ref a) (.ref b)) Q E s := by
  obtain ⟨as, ra⟩ := prs_reads N hA
  obtain ⟨bs, rb⟩ := prs_reads N hB
  refine ne_dataH_same (reads_list_at (N _ ha).1 rfl rfl ra) (reads_list_at (N _ hb).1 rfl rfl rb) (pr_shaped rs) (pr_shaped qs) hu (SeqAt.noMix_of_shape (.list (.tuple [.int, .int])) rfl _ _ (list_map_has pr_has) (list_map_has pr_has)) ?_
  rw [pr_same]; exact h
end
section
variable {prog : Program} {w : World} {A : Around} {E : Value → Shared → Prop} {s : Shared} {h₀ : Heap} {L : Addr} {m : Str → Option Value}
theorem tailOps {value slice : PySem.Expr} {o i : Value} {T id : String} {ops : List Value} {Q : Value → Shared → Prop} (hT : s.TypeIs o T)
    (hl : typeLookup (.type T) "__getitem__" = pure (some (.builtin id))) (h : wpAny (model prog w) A (getItem o i) Q E s)
    (hs : subscripted slice false o i = operate ops (getItem o i)) : wpAny (model prog w) A (subscriptTail value slice o i) Q E s := by
  unfold subscriptTail
  refine wpAny_bind ?_
  rw [getitemInPython_of_ne hT.not_modules]
  refine wpAny_bind (wpAny_specialOf hT hl ?_)
  have fin : wpAny (model prog w) A (subscripted slice false o i) (fun r s₃ => wpAny (model prog w) A (letTemporaryGo value o r >>= fun _ => pure r) Q E s₃) E s := by
    rw [hs]
    exact wpAny_operating (wpAny_mono h (fun r s₃ h₃ => wpAny_bind (wpAny_letTemporaryGo (wpAny_pure h₃))) fun _ _ x => x)
  first
    | exact wpAny_pure (wpAny_bind fin)
    | exact wpAny_bind (wpAny_pure (wpAny_bind fin))
    | exact wpAny_bind fin
/-- xs[::-1] of ints, the list a temporary too -/
theorem revInts {value slice : PySem.Expr} {l : Addr} {vs : List Value} {ns : List Int} {vk : Value} {ops : List Value} {news : Led} {Q : Value → Shared → Prop} (F : Fr h₀ L s.heap m) (N : News h₀ L s.heap news) (hl : s.heap.IsList l vs.toArray) (pk : IsPart vk (some (-1))) (hi : IntsAre vs ns)
    (h : ∀ D ws h', Fr h₀ L h' m → News h₀ L h' ((D, W.listOf (List.toArray ws) 0) :: news) → (∀ p ∈ news, p.1 < D) → IntsAre ws ns.reverse → Q (.ref D) { s with heap := h' })
    (hs : subscripted slice false (.ref l) (.ref s.heap.objs.size) = operate ops (getItem (.ref l) (.ref s.heap.objs.size))) (hz : vs.toArray.size ≤ sizeLine) :
    wpAny (model prog w) A (subscriptTail value slice (.ref l) (.ref s.heap.objs.size)) Q E { s with heap := s.heap.push { cls := .type "slice", data := .fields #[.none, .none, vk] } } := by
  refine tailOps (Heap.IsList.typeIs (s := { s with heap := s.heap.push { cls := .type "slice", data := .fields #[.none, .none, vk] } }) (hl.push _)) list_getitem_lookup
    (wpAny_getItem_list_slice (hl.push _) (Heap.IsSliceOf.new ..) .none .none pk (by decide) ?_ hz) hs
  have N1 := News.push (F.push { cls := .type "slice", data := .fields #[.none, .none, vk] }) (N.grown fun _ _ e => Heap.get?_push_of_some _ e) { cls := .type "list", data := .seq (slicePick vs.toArray none none (some (-1))) }
  rw [Heap.size_push, krv_pick] at N1
  show Q (.ref (s.heap.push _).objs.size) _
  rw [Heap.size_push]
  have F1 := (F.push { cls := .type "slice", data := .fields #[.none, .none, vk] }).push { cls := .type "list", data := .seq (slicePick vs.toArray none none (some (-1))) }
  rw [krv_pick] at F1 ⊢
  exact h _ vs.reverse _ F1 N1 (fun p hp => Nat.lt_succ_of_lt (Heap.lt_size (N p hp).1)) hi.reverse
end
end Mine
end
section
open PySem PySem.W PyProof.Rows
set_option autoImplicit false
namespace Mine
section
variable {prog : Program} {w : World} {A : Around} {E : Value → Shared → Prop} {s : Shared} {env : Env} {h₀ : Heap} {elts : List PySem.Expr} {kt : Nat} {tp : Pos} {body : List Stmt} {Q : Flow → Shared → Prop}
set_option maxHeartbeats 3200000 in
/-- a for over a made list, its target any -/
theorem turnsList {l : Addr} {vs : List Value} {nn : Nat} {m₀ : Str → Option Value} {news : Led} (J : Nat → (Str → Option Value) → Led → Prop)
    (hrefs : ∀ v ∈ vs, ∃ a, v = Value.ref a) (hh : A.handled = none) (hl : (l, W.listOf vs.toArray nn) ∈ news) (F : Fr h₀ env.locals s.heap m₀) (N : News h₀ env.locals s.heap news) (hj : J 0 m₀ news)
    (turn : ∀ (i : Nat) (v : Value) m₁ news₁ h tk own, vs[i]? = some v → OwnOff own (news₁.map (·.1)) → (∀ p ∈ own, ∀ xs n, p.2.data ≠ .seq xs n) → (l, W.listOf vs.toArray nn) ∈ news₁ → J i m₁ news₁ → Fr h₀ env.locals h m₁ → News h₀ env.locals h (news₁ ++ own) →
      wpAny (model prog w) A (assign (.Tuple elts kt tp) env v) (fun _ s₃ => wpAny (model prog w) A (execs body env) (InvPostG h₀ env.locals (fun m' nx => (l, W.listOf vs.toArray nn) ∈ nx ∧ J (i + 1) m' nx) own { s with heap := h, toks := tk } Q) E s₃) E { s with heap := h, toks := tk })
    (done : ∀ m₁ news₁ h tk, J vs.length m₁ news₁ → Fr h₀ env.locals h m₁ → News h₀ env.locals h news₁ → Q .next { s with heap := h, toks := tk }) :
    wpAny (model prog w) A (pyIter (.ref l)) (fun it s₂ => TurnsAt prog w A h₀ env (.Tuple elts kt tp) body Q E it s₂) E s := by
  have hol : s.heap.get? l = some (W.listOf vs.toArray nn) := (N _ hl).1
  have hls : s.heap.IsList l vs.toArray := ⟨_, hol, rfl, nn, rfl⟩
  have hne : l ≠ s.heap.objs.size := Nat.ne_of_lt (Heap.lt_size hol)
  refine wpAny_pyIter_list hls ?_
  have W0 := Walks.list (prog := prog) (w := w) hh s.heap.objs.size l hne vs.toArray
  have hlen : vs.toArray.size = vs.length := by simp
  rw [hlen] at W0
  have WT : KTurns prog w A (.Tuple elts kt tp) s.heap.objs.size [s.heap.objs.size, l] [s.heap.objs.size] vs.length (fun i v _ => vs.toArray[i]? = some v) (fun i v h => vs.toArray[i]? = some v ∧ (h.IsListIter s.heap.objs.size l (i + 1) ∧ h.IsList l vs.toArray)) (fun i h => h.IsListIter s.heap.objs.size l i ∧ h.IsList l vs.toArray) :=
    { sub := W0.sub, frame := W0.frame, done := W0.done,
      item := fun i s' Q' E' hi st hQ => W0.item i s' Q' E' hi st fun v h' tk hP st' hk => hQ v h' tk ⟨hP, st'⟩ hk,
      go := fun i v s' Q' E' hm hQ => by
        obtain ⟨a, rfl⟩ := hrefs v (by
          have := hm.1
          rw [List.getElem?_toArray] at this
          exact List.mem_of_getElem? this)
        exact wpAny_letOwnedTupleGo_listiter hm.2.1 (hQ s'.heap hm.1 hm.2 fun _ _ _ e => e) }
  refine ⟨_, _, _, vs.length, _, _, _, m₀, news, (fun i m nx => (l, W.listOf vs.toArray nn) ∈ nx ∧ J i m nx), rfl, WT, ?_, ?_, ?_, ⟨⟨_, Heap.get?_push_size _ rfl, rfl, rfl⟩, hls.at fun o e => Heap.get?_push_of_some _ e⟩, F.push _, (fun p hp => ⟨Heap.get?_push_of_some _ (N p hp).1, (N p hp).2⟩), ⟨hl, hj⟩, ?_, ?_⟩
  · intro hm
    rcases List.mem_cons.mp hm with e | hm
    · exact absurd F.ns.lt (e ▸ Nat.lt_irrefl _)
    · exact (N _ hl).2.1 ((List.mem_singleton.mp hm).symm)
  · intro b hb
    rw [List.mem_singleton.mp hb]
    exact next_is_new F
  · intro p hp hI
    exact absurd (Heap.lt_size (N p hp).1) ((List.mem_singleton.mp hI) ▸ Nat.lt_irrefl _)
  · rintro i v m₁ news₁ hh' tk' own hin hP ⟨hl₁, hJ⟩ hoff hown hget hfp hst F₁ N₁
    have hP' : vs[i]? = some v := by simpa using hP
    have hI0 : h₀.get? s.heap.objs.size = none := next_is_new F
    obtain ⟨⟨oI, hoI, _⟩, _⟩ := id hst
    have hIown : (s.heap.objs.size, oI) ∈ own.filter fun p => decide (p.1 = s.heap.objs.size) := List.mem_filter.mpr ⟨hfp _ (List.mem_cons.mpr (.inl rfl)) hI0 _ hoI, by simp⟩
    have hsep : OwnOff (own.filter fun p => decide (p.1 = s.heap.objs.size)) (news₁.map (·.1)) := by
      intro p hp b hb e
      obtain ⟨q, hq, rfl⟩ := List.mem_map.mp hb
      have h1 : p.1 = s.heap.objs.size := by simpa using (List.mem_filter.mp hp).2
      exact hoff q hq (List.mem_singleton.mpr (e ▸ h1))
    have hsq : ∀ p ∈ (own.filter fun p => decide (p.1 = s.heap.objs.size)), ∀ xs n, p.2.data ≠ .seq xs n := by
      intro p hp xs n e
      have h1 : p.1 = s.heap.objs.size := by simpa using (List.mem_filter.mp hp).2
      have h2 : hh'.get? p.1 = some p.2 := hget p (List.mem_filter.mp hp).1
      obtain ⟨o2, ho2, hc2, hd2⟩ := hst.1
      rw [h1, ho2] at h2
      obtain rfl := Option.some.inj h2
      rw [hd2] at e
      cases e
    have N₂ : News h₀ env.locals hh' (news₁ ++ own.filter fun p => decide (p.1 = s.heap.objs.size)) := fun p hp => N₁ p ((List.mem_append.mp hp).elim (fun h => List.mem_append.mpr (.inr h)) fun h => List.mem_append.mpr (.inl ((List.mem_filter.mp h).1)))
    have hlo : hh'.get? l = some (W.listOf vs.toArray nn) := (N₁ _ (List.mem_append.mpr (.inr hl₁))).1
    refine wpAny_mono (turn i v m₁ news₁ hh' tk' _ hP' hsep hsq hl₁ hJ F₁ N₂) (fun _ s₃ q => wpAny_mono q (fun f s₂ p => ?_) fun _ _ e => e) fun _ _ e => e
    have fin : InvEndG h₀ env.locals (fun m' nx => (l, W.listOf vs.toArray nn) ∈ nx ∧ J (i + 1) m' nx) (own.filter fun p => decide (p.1 = s.heap.objs.size)) { s with heap := hh', toks := tk' } s₂ →
        LoopStepU h₀ env.locals [s.heap.objs.size] own (fun m nx => (l, W.listOf vs.toArray nn) ∈ nx ∧ J (i + 1) m nx) { s with heap := hh', toks := tk' } .next s₂ := by
      rintro ⟨h', tk, m', news', nx, e, F', N', hn, ho, ha, hm⟩
      refine ⟨rfl, h', tk, m', nx, e, F', fun p hp => ?_, fun p hp hq => ?_, hm⟩
      · rcases List.mem_append.mp hp with h | h
        · by_cases hI : p.1 = s.heap.objs.size
          · exact N' p (ho p (List.mem_filter.mpr ⟨h, by simpa using hI⟩))
          · have h1 : p.1 = l := by
              rcases List.mem_cons.mp (hown p h) with h2 | h2
              · exact absurd h2 hI
              · exact List.mem_singleton.mp h2
            have h2 : hh'.get? p.1 = some p.2 := hget p h
            rw [h1, hlo] at h2
            have h3 : p = (l, W.listOf vs.toArray nn) := Prod.ext h1 (Option.some.inj h2).symm
            rw [h3]
            exact N' _ (hn _ hm.1)
        · exact N' p (hn p h)
      · exact ha _ hIown p.1 (List.mem_map.mpr ⟨p, hp, rfl⟩) (List.mem_singleton.mp hq).symm
    cases f with
    | ret v => exact p
    | brk => exact p
    | next => exact fin p
    | cont => exact fin p
  · rintro h' tk m' news' F' N' _ ⟨_, hJ⟩
    exact done m' news' h' tk hJ F' N'
end
end Mine
end
section
open PySem PySem.W PyProof.Rows
set_option autoImplicit false
namespace Mine
section
variable {prog : Program} {w : World} {A : Around} {E : Value → Shared → Prop} {s : Shared} {h₀ : Heap} {L : Addr} {m : Str → Option Value} {news : Led}
/-- the least key of a made dict of ints -/
theorem minDict {d : Addr} {o : Obj} {kvs : List (Int × Value)} {Q : Value → Shared → Prop} (hh : A.handled = none) (F : Fr h₀ L s.heap m) (N : News h₀ L s.heap news) (hp : (d, o) ∈ news) (hd : o.IsDictOf (PySem.intKind prog w) kvs) (lo : (d == sysModules) = false) (hne : kvs ≠ [])
    (h : ∀ h' (M : Int) (t : Tok) tk, Fr h₀ L h' m → News h₀ L h' news → M ∈ kvs.map (·.1) → (∀ a ∈ kvs.map (·.1), M ≤ a) → Q (.int M t) { s with heap := h', toks := tk }) :
    wpAny (model prog w) A (call (.builtin "min") [.ref d]) Q E s := by
  obtain ⟨ep, hep⟩ := KdkAt.of hd
  have hm : s.heap.DictAt (PySem.intKind prog w) d kvs ep := hep.dictAt (N _ hp).1
  have hpos : 0 < kvs.length := List.length_pos_iff.mpr hne
  have num : ∀ (i : Nat) (k : Int) (x : Value), kvs[i]? = some (k, x) → (kvs.map (·.1)).getD i 0 = k := by
    intro i k x e
    rw [List.getD_eq_getElem?_getD, List.getElem?_map, e]; rfl
  refine call_min_walk (wpAny_pyIter_dict lo hm ?_)
  refine ⟨s.heap.objs.size, [s.heap.objs.size, d], [s.heap.objs.size], kvs.length, _, _, (fun i j => decide ((kvs.map (·.1)).getD i 0 < (kvs.map (·.1)).getD j 0)), rfl,
    Walks.dictKeys (A := A.in1) hh _ d (Nat.ne_of_lt hm.lt_size) kvs ep, ⟨⟨_, Heap.get?_push_size _ rfl, rfl, rfl⟩, hm.push _⟩, ?_, hpos, ?_, ?_⟩
  · intro b hb
    show b < (s.heap.push _).objs.size
    rw [Heap.size_push]
    rcases List.mem_cons.mp hb with e | hb
    · rw [e]; exact Nat.lt_succ_self _
    · rw [List.mem_singleton.mp hb]; exact Nat.lt_succ_of_lt hm.lt_size
  · refine CmpOf.ints_lt (fun i => (kvs.map (·.1)).getD i 0) ?_
    rintro i v ⟨k, x, e, hi⟩
    obtain ⟨t, rfl⟩ := Value.isInt_shape hi
    exact ⟨t, by rw [num i k x e]⟩
  · rintro v h' tk ⟨k, x, e, hi⟩ hk
    obtain ⟨t, rfl⟩ := Value.isInt_shape hi
    obtain ⟨h1, h2⟩ := argBest_lt (fun i => (kvs.map (·.1)).getD i 0) (kvs.length - 1)
    have hkk := num _ k x e
    have hsz : ∀ b o, s.heap.get? b = some o → h'.get? b = some o := fun b o e => hk b o (fun hm => by rw [List.mem_singleton.mp hm] at e; exact Nat.lt_irrefl _ (Heap.lt_size e)) (Heap.get?_push_of_some _ e)
    refine h h' k t tk (F.keeps hsz) (N.grown hsz) ?_ fun a ha => ?_
    · exact List.mem_map.mpr ⟨(k, x), List.mem_of_getElem? e, rfl⟩
    · obtain ⟨j, hj, rfl⟩ := List.getElem_of_mem ha
      have := h2 j (by rw [List.length_map] at hj; omega)
      rw [hkk] at this
      rw [List.getD_eq_getElem?_getD, List.getElem?_eq_getElem hj] at this
      exact this
end
end Mine
end
section
open PySem PySem.W PyProof.Rows
namespace Mine
/-- what a call of a def of the text does that changes nothing that stands: it hands back a value and makes new objects -/
def Does (w : World) (mean : ExcName → Option Value) (mg mb : Str → Option Value) (f : Addr) (sz : Nat) (Pre : Led → List Value → Prop) (Post : Led → Value → Prop) : Prop :=
  ∀ (dp un : Nat) (gd : Option (List Code)) (cn : Str) (cs : Scope) (a : Addr) (ccd : Value) (cl : List (Str × Addr)) (outer : List Env) (A₀ : Around) (base h₀ : Heap) (L : Addr) (m : Str → Option Value) (news : Led) (s : Shared) (vs : List Value)
    (Q E : Value → Shared → Prop),
    Below A₀ base outer h₀ → Fr h₀ L s.heap m → (hd.heap_39 w.params).In h₀ → News h₀ L s.heap news → Top hd.view_39 (looseW hd.view_39 []) mean mg mb h₀ → cs.kind = .function → Pre news vs → dp + sz < recursionLimit → un + 8 * sz < cLine →
    (∀ r tl h' tk', Fr h₀ L h' m → News h₀ L h' (news ++ tl) → OwnOff tl (news.map (·.1)) → Post (news ++ tl) r → Q r { s with heap := h', toks := tk' }) →
    wpAny (model PySem.Challenge.rw_rg0248_01.row.prog w) (ktrTop dp un gd cn cs L a ccd cl outer) (call (.ref f) vs) Q E s
theorem Does.use {w : World} {mean : ExcName → Option Value} {mg mb : Str → Option Value} {f : Addr} {sz : Nat} {Pre : Led → List Value → Prop} {Post : Led → Value → Prop} (C : Does w mean mg mb f sz Pre Post)
    {dp un : Nat} {gd : Option (List Code)} {cn : Str} {cs : Scope} {a : Addr} {ccd : Value} {cl : List (Str × Addr)} {outer : List Env} {A₀ : Around} {base h₀ : Heap} {L : Addr} {m : Str → Option Value} {news : Led} {s : Shared} {vs : List Value}
    {Q E : Value → Shared → Prop}
    (B : Below A₀ base outer h₀) (F : Fr h₀ L s.heap m) (X : (hd.heap_39 w.params).In h₀) (N : News h₀ L s.heap news) (T : Top hd.view_39 (looseW hd.view_39 []) mean mg mb h₀) (hk : cs.kind = .function) (hp : Pre news vs) (h1 : dp + sz < recursionLimit) (h2 : un + 8 * sz < cLine)
    (ret : ∀ r tl h' tk', Fr h₀ L h' m → News h₀ L h' (news ++ tl) → OwnOff tl (news.map (·.1)) → Post (news ++ tl) r → Q r { s with heap := h', toks := tk' }) :
    wpAny (model PySem.Challenge.rw_rg0248_01.row.prog w) (ktrTop dp un gd cn cs L a ccd cl outer) (call (.ref f) vs) Q E s := C _ _ _ _ _ _ _ _ _ _ _ _ _ _ _ _ _ _ _ B F X N T hk hp h1 h2 ret
theorem off_nil {adr : List Addr} : OwnOff [] adr := fun _ h => nomatch h
theorem news_nil {h₀ h : Heap} {L : Addr} {news : Led} (N : News h₀ L h news) : News h₀ L h (news ++ []) := by rw [List.append_nil]; exact N
theorem news_sub {h₀ h : Heap} {L : Addr} {news news' : Led} (N : News h₀ L h news) (k : ∀ p ∈ news', p ∈ news) : News h₀ L h news' := fun p hp => N p (k p hp)
theorem depth_ok {dp sz : Nat} (h : dp + sz < recursionLimit) (h1 : 1 ≤ sz) : dp < recursionLimit := by omega
theorem off_new {h₀ h : Heap} {L a : Addr} {o : Obj} {news nw : Led} (N : News h₀ L h nw) (k : ∀ p ∈ news, p ∈ nw) (ha : h.objs.size ≤ a) : OwnOff [(a, o)] (news.map (·.1)) := by
  intro p hp b hb e
  rw [List.mem_singleton.mp hp] at e
  obtain ⟨q, hq, rfl⟩ := List.mem_map.mp hb
  have := Heap.lt_size (N q (k q hq)).1
  rw [← e] at this
  exact Nat.lt_irrefl _ (Nat.lt_of_lt_of_le this ha)
theorem news_one {h₀ h : Heap} {L : Addr} {q : Addr × Obj} {news nw : Led} (N : News h₀ L h nw) (k : ∀ p ∈ news, p ∈ nw) (hq : q ∈ nw) : News h₀ L h (news ++ [q]) := fun p hp => N p ((List.mem_append.mp hp).elim (k p) fun h => by rw [List.mem_singleton.mp h]; exact hq)
theorem mem_one {q : Addr × Obj} {news : Led} : q ∈ news ++ [q] := List.mem_append_right _ (.head _)
def hasN (rs : List Pr) (n : Int) : Bool := rs.any fun p => decide (p.1 ≤ n) && decide (n ≤ p.2)
def PairsAt (rs : List Pr) (news : Led) (v : Value) : Prop := ∃ (a : Addr) (vs : List Value) (nn : Nat), v = .ref a ∧ (a, W.listOf vs.toArray nn) ∈ news ∧ DatAll news vs (rs.map prD)
def IntsAt (ns : List Int) (news : Led) (v : Value) : Prop := ∃ (a : Addr) (vs : List Value) (nn : Nat), v = .ref a ∧ (a, W.listOf vs.toArray nn) ∈ news ∧ IntsAre vs ns
theorem PairsAt.mono {rs : List Pr} {news news' : Led} {v : Value} (h : PairsAt rs news v) (k : ∀ p ∈ news, p ∈ news') : PairsAt rs news' v := by
  obtain ⟨a, vs, nn, e, hm, hA⟩ := h
  exact ⟨a, vs, nn, e, k _ hm, hA.mono k⟩
theorem IntsAt.mono {ns : List Int} {news news' : Led} {v : Value} (h : IntsAt ns news v) (k : ∀ p ∈ news, p ∈ news') : IntsAt ns news' v := by
  obtain ⟨a, vs, nn, e, hm, hA⟩ := h
  exact ⟨a, vs, nn, e, k _ hm, hA⟩
theorem bools_of (bs : List Bool) : LSm.BoolsAre (bs.map Value.bool) bs := by
  induction bs with
  | nil => exact .nil
  | cons b r ih => exact .cons _ ih
end Mine
end
section
open PySem PySem.W PyProof.Rows
set_option autoImplicit false
namespace Mine
section
variable {prog : Program} {w : World} {A : Around} {E : Value → Shared → Prop} {s : Shared} {h₀ : Heap} {L : Addr} {m : Str → Option Value} {env : Env}
theorem stepWalks {I : Addr} (hh : A.handled = none) (a c : Int) (n : Nat) : Walks prog w A I [I] [I] n (fun i v => ∃ t, v = .int (a + (i : Int) * c) t) (fun i h => IsRangeIter h I (a + (i : Nat) * c) ((n : Int) - (i : Nat)) c) := Walks.range hh I a c n
theorem stepSt {I : Addr} {a c : Int} {n : Nat} : ∀ i (h h' : Heap) (o : Obj) (nw : List (Addr × Obj)), IsRangeIter h I (a + (i : Nat) * c) ((n : Int) - (i : Nat)) c → h.get? I = some o → h'.get? I = some o → (∀ b o, h₀.get? b = some o → h'.get? b = some o) → News h₀ L h' nw → True → IsRangeIter h' I (a + (i : Nat) * c) ((n : Int) - (i : Nat)) c :=
  fun i h h' o nw st e e' _ _ _ => by
    have st' : h.get? I = some _ := st
    show h'.get? I = some _
    rw [e', ← e]; exact st'
/-- what the source of a comprehension over a range of any step gives -/
def SrcStep (prog : Program) (w : World) (A : Around) (h₀ : Heap) (L : Addr) (m : Str → Option Value) (env : Env) (elt : PySem.Expr) (x : Str) (scope : Scope) (cl : List (Str × Addr)) (Fin : Shared → List Value → List (Addr × Obj) → Prop) (xv : Value) (s₁ : Shared) : Prop :=
  ∃ r a b c t u v n news, xv = .ref r ∧ A.handled = none ∧ Fr h₀ L s₁.heap m ∧ News h₀ L s₁.heap news ∧ IsRange s₁.heap r a b c t u v ∧ Builtin.Range.small a b c = true ∧ Builtin.Range.rangeSize a b c = ((n : Nat) : Int) ∧ n ≤ sizeLine ∧
    ∀ s₂ : Shared, (∃ h, s₂ = { s₁ with heap := h }) → LCg.CompRest prog w A h₀ L m env elt x scope cl s₂ (fun _ => True) (fun i v => ∃ t, v = .int (a + (i : Int) * c) t) (Fin s₂) n 0 [] news
theorem ListComp_step {elt iter : PySem.Expr} {x : Str} {px : Pos} {scope : Scope} {cl : List (Str × Addr)} {pos : Pos} {Q : Value → Shared → Prop} (F₀ : Fr h₀ L s.heap m)
    (hclos : closureFor scope env = pure cl) (hcell : ∀ y ∈ scope.names, y.2 ≠ .cell) (hkind : scope.kind = .function)
    (hnames : ∀ y ∈ scope.names, y.2 = .local → scope.names.lookup y.1 = some .local) (hx : scope.names.lookup x = some .local)
    (hs : ∀ x, foldedSetIterable iter env x = pure x)
    (h : wpAny (model prog w) A (eval iter env) (SrcStep prog w A h₀ L m env elt x scope cl (fun s₂ => LCg.FinE h₀ L m s₂ Q)) E s) :
    wpAny (model prog w) A (eval (.ListComp elt [⟨.Name x px, iter, [], 0⟩] scope pos) env) Q E s := by
  rw [eval_ListComp]
  refine wpAny_comprehension_free (use := none) rfl hs hclos hkind hnames (wpAny_mono h (fun xv s₁ h₁ => ?_) fun _ _ e => e)
  obtain ⟨r, a, b, c, t, u, v, n, news, rfl, hh, F, N, hr, hsm, hn, hsz, R⟩ := h₁
  refine wpAny_pyIter_range hr hsm ?_
  refine LCg.block_U (stepWalks hh a c n) hsz (fun i h st => ⟨_, st⟩) stepSt hcell hkind hx (by show IsRangeIter _ _ _ _ _; rw [hn]; simpa using Heap.get?_push_size _ rfl) (fun b hb => ?_)
    (F.keeps fun _ _ e => Heap.get?_push_of_some _ e) (N.grown fun _ _ e => Heap.get?_push_of_some _ e) (Nat.ne_of_lt F.ns.lt) (next_is_new F) (fun p hp => Nat.ne_of_lt (Heap.lt_size (N p hp).1)) trivial (R _ ⟨_, rfl⟩) ?_
  · rw [List.mem_singleton.mp hb]
    show s₁.heap.objs.size < (s₁.heap.push _).objs.size
    rw [Heap.size_push]; exact Nat.lt_succ_self _
  · intro D C h tk m' ys news' F' N' o1 hn hC₀ hD₀ hCL hDL hCD offC fin
    refine ⟨m', hn, fun h'' hs'' => fin D h'' tk (F'.change hs'' hCL hC₀) (fun p hp => ?_) o1⟩
    refine ⟨hs''.extBut _ _ ?_ (N' p hp).1, (N' p hp).2⟩
    rcases List.mem_cons.mp hp with rfl | hp
    · exact Ne.symm hCD
    · exact offC p hp
end
end Mine
end
section
open PySem PySem.W PyProof.Rows
set_option autoImplicit false
namespace Mine
section
variable {prog : Program} {w : World} {A : Around} {E : Value → Shared → Prop} {s : Shared} {env : Env} {h₀ : Heap} {x : Str} {body : List Stmt} {Q : Flow → Shared → Prop}
set_option maxHeartbeats 3200000 in
/-- a for over a made range, its state any -/
theorem turnsRange {r : Addr} {a b c : Int} {t₀ u₀ v₀ : Tok} {n : Nat} {m₀ : Str → Option Value} {news : Led} (J : Nat → (Str → Option Value) → Led → Prop)
    (hh : A.handled = none) (hr : IsRange s.heap r a b c t₀ u₀ v₀) (hsmall : Builtin.Range.small a b c = true) (hsz : Builtin.Range.rangeSize a b c = (n : Int)) (F : Fr h₀ env.locals s.heap m₀) (N : News h₀ env.locals s.heap news) (hj : J 0 m₀ news)
    (turn : ∀ (i : Nat) (t : Tok) m₁ nx h tk own, i < n → OwnOff own (nx.map (·.1)) → (∀ p ∈ own, ∀ xs k, p.2.data ≠ .seq xs k) → J i m₁ nx → Fr h₀ env.locals h (fun y => if y = x then some (.int (a + i * c) t) else m₁ y) → News h₀ env.locals h (nx ++ own) →
      wpAny (model prog w) A (execs body env) (InvPostG h₀ env.locals (J (i + 1)) own { s with heap := h, toks := tk } Q) E { s with heap := h, toks := tk })
    (done : ∀ m₁ nx h tk, J n m₁ nx → Fr h₀ env.locals h m₁ → News h₀ env.locals h nx → Q .next { s with heap := h, toks := tk }) :
    wpAny (model prog w) A (pyIter (.ref r)) (fun it s₂ => LoopAtV prog w A h₀ env x body Q E it s₂) E s := by
  refine wpAny_pyIter_range hr hsmall ?_
  have W := Walks.range (prog := prog) (w := w) hh s.heap.objs.size a c n
  refine ⟨s.heap.objs.size, [s.heap.objs.size], [s.heap.objs.size], n, _, _, m₀, news, J, rfl, W, ?_, ?_, ?_, (by show IsRangeIter _ _ _ _ _; rw [hsz]; simpa using Heap.get?_push_size _ rfl), F.push _, (fun p hp => ⟨Heap.get?_push_of_some _ (N p hp).1, (N p hp).2⟩), hj, ?_, ?_⟩
  · intro hm
    exact absurd F.ns.lt ((List.mem_singleton.mp hm) ▸ Nat.lt_irrefl _)
  · intro b hb
    rw [List.mem_singleton.mp hb]
    exact next_is_new F
  · intro p hp hI
    exact absurd (Heap.lt_size (N p hp).1) ((List.mem_singleton.mp hI) ▸ Nat.lt_irrefl _)
  · rintro i v m₁ news₁ s₁ own ⟨hh', tk', rfl⟩ hin ⟨t, rfl⟩ hJ hoff hown hget hmem hst' F₁ N₁
    have hsep : OwnOff own (news₁.map (·.1)) := by
      intro p hp b hb e
      obtain ⟨q, hq, rfl⟩ := List.mem_map.mp hb
      exact hoff q hq (e ▸ hown p hp)
    have hst2 : hh'.get? s.heap.objs.size = some _ := hst'
    have hsq : ∀ p ∈ own, ∀ xs k, p.2.data ≠ .seq xs k := by
      intro p hp xs k e
      have h1 := hget p hp
      have h3 : hh'.get? p.1 = some p.2 := h1
      rw [List.mem_singleton.mp (hown p hp), hst2] at h3
      rw [← Option.some.inj h3] at e
      cases e
    have N₂ : News h₀ env.locals hh' (news₁ ++ own) := fun p hp => N₁ p ((List.mem_append.mp hp).elim (fun h => List.mem_append.mpr (.inr h)) fun h => List.mem_append.mpr (.inl h))
    refine wpAny_mono (turn i t m₁ news₁ hh' tk' own hin hsep hsq hJ F₁ N₂) (fun f s₂ p => ?_) fun _ _ e => e
    have fin : InvEndG h₀ env.locals (J (i + 1)) own { s with heap := hh', toks := tk' } s₂ → LoopStepU h₀ env.locals [s.heap.objs.size] own (J (i + 1)) { s with heap := hh', toks := tk' } .next s₂ := by
      rintro ⟨h', tk, m', news', nx, e, F', N', hn, ho, ha, hm⟩
      refine ⟨rfl, h', tk, m', nx, e, F', fun p hp => N' p ((List.mem_append.mp hp).elim (ho p) (hn p)), fun p hp hq => ?_, hm⟩
      have hq' : p.1 = s.heap.objs.size := List.mem_singleton.mp hq
      exact ha _ (hmem s.heap.objs.size (List.mem_singleton.mpr rfl) (next_is_new F) _ hst2) p.1 (List.mem_map.mpr ⟨p, hp, rfl⟩) hq'.symm
    cases f with
    | ret v => exact .ret p
    | brk => exact .brk p
    | next => exact .next (fin p)
    | cont => exact .cont (fin p)
  · rintro h' tk m' news' F' N' _ hJ
    exact done m' news' h' tk hJ F' N'
end
end Mine
end
section
open PySem PySem.W PyProof.Rows
set_option autoImplicit false
namespace Mine
local macro_rules | `(tactic| omega) => `(tactic| lia)
/-- a comprehension of two clauses, the inner one's element its own number -/
abbrev two (y : Str) (pe py : Pos) (T1 it1 it2 : PySem.Expr) (scope : Scope) (pos : Pos) : PySem.Expr := .ListComp (.Name y pe) [⟨T1, it1, [], 0⟩, ⟨.Name y py, it2, [], 0⟩] scope pos
theorem two_in (y : Str) (pe py : Pos) (T1 it1 it2 : PySem.Expr) (scope : Scope) (pos : Pos) (it acc : Value) (env : Env) :
    compTurn (two y pe py T1 it1 it2 scope pos) 1 it acc env = (standAt it2.pos >>= fun _ => pyNext it >>= fun r => match r with
      | none => pure (.done .next)
      | some v => letOwnedTupleGo (.Name y py) it v >>= fun _ => assign (.Name y py) env v >>= fun _ =>
        (eval (.Name y pe) env >>= fun x => call (.builtin "list.append") [acc, x] >>= fun _ => pure ()) >>= fun _ =>
          again (.compLoop (two y pe py T1 it1 it2 scope pos) 1 it acc env)) := by rfl
theorem two_out (y : Str) (pe py : Pos) (T1 it1 it2 : PySem.Expr) (scope : Scope) (pos : Pos) (it acc : Value) (env : Env) :
    compTurn (two y pe py T1 it1 it2 scope pos) 0 it acc env = (standAt it1.pos >>= fun _ => pyNext it >>= fun r => match r with
      | none => pure (.done .next)
      | some v => letOwnedTupleGo T1 it v >>= fun _ => assign T1 env v >>= fun _ =>
        eval it2 env >>= fun x => standAt it2.pos >>= fun _ => foldedSetIterable it2 env x >>= fun x => holding [x] (pyIter x) >>= fun it' => runOwn (.compStart (two y pe py T1 it1 it2 scope pos) 1 it' acc env) env >>= fun _ =>
          again (.compLoop (two y pe py T1 it1 it2 scope pos) 0 it acc env)) := by rfl
section
variable {prog : Program} {w : World} {A : Around} {E : Value → Shared → Prop} {s : Shared} {R : Result → Shared → Prop}
theorem two_startIn {y : Str} {pe py : Pos} {T1 it1 it2 : PySem.Expr} {scope : Scope} {pos : Pos} {it acc : Value} {env : Env}
    (h0 : codeAny (model prog w) A (.compLoop (two y pe py T1 it1 it2 scope pos) 1 it acc env) R s)
    (h : wpAny (model prog w) A (pyIter it) (fun it' s' => codeAny (model prog w) A (.compLoop (two y pe py T1 it1 it2 scope pos) 1 it' acc env) R s')
      (notedBy (model prog w) A env fun x s' => R (.error x) s') s) :
    codeAny (model prog w) A (.compStart (two y pe py T1 it1 it2 scope pos) 1 it acc env) R s := by
  refine codeAny_of_tree ?_
  show wpAny _ _ ((compStart (two y pe py T1 it1 it2 scope pos) 1 it acc env).onRaise (fun x => do noteFrame x env; standAt theWindowsPlace)) _ _ s
  refine wpAny_notedAt ?_
  unfold compStart
  show wpAny _ _ (ask >>= _) _ _ s
  refine wpAny_bind (wpAny_askSetting (wpAny_ite ?_))
  split
  · first
      | exact wpAny_bind (wpAny_pure (wpAny_pure (And.intro rfl h0)))
      | exact wpAny_pure (And.intro rfl h0)
  · first
      | exact wpAny_bind (wpAny_rule (wpAny_bind (wpAny_standAt (wpAny_bind (wpAny_mono h (fun it' s' h' => wpAny_pure (And.intro rfl h')) fun _ _ x => x)))))
      | (refine wpAny_bind (wpAny_rule ?_); show wpAny _ _ (standAt it2.pos >>= _) _ _ s; exact wpAny_bind (wpAny_standAt (wpAny_bind (wpAny_mono h (fun it' s' h' => wpAny_pure (And.intro rfl h')) fun _ _ x => x))))
theorem two_loopIn {y : Str} {pe py : Pos} {T1 it1 it2 : PySem.Expr} {scope : Scope} {pos : Pos} {it acc : Value} {env : Env} (I : Nat → Shared → Prop)
    (turn : ∀ n s, I n s → wpAny (model prog w) A (pyNext it) (fun r s₁ => match r with
      | none => R (.ok .next) s₁
      | some v => wpAny (model prog w) A (assign (.Name y py) env v) (fun _ s₂ =>
          wpAny (model prog w) A (eval (.Name y pe) env) (fun x s₄ =>
              wpAny (model prog w) A (call (.builtin "list.append") [acc, x]) (fun _ s₅ => ∃ m, m < n ∧ I m s₅) (notedBy (model prog w) A env fun e s' => R (.error e) s') s₄) (notedBy (model prog w) A env fun e s' => R (.error e) s') s₂)
          (notedBy (model prog w) A env fun e s' => R (.error e) s') s₁) (notedBy (model prog w) A env fun e s' => R (.error e) s') s)
    (n : Nat) (h : I n s) : codeAny (model prog w) A (.compLoop (two y pe py T1 it1 it2 scope pos) 1 it acc env) R s := by
  refine codeAny_loop rfl I (fun n s hI => ?_) n h
  show wpAny _ A ((compTurn (two y pe py T1 it1 it2 scope pos) 1 it acc env).onRaise (fun x => do noteFrame x env; theTreesLotGoes x)) _ _ s
  refine wpAny_noted ?_
  rw [two_in]
  refine wpAny_bind (wpAny_standAt (wpAny_bind (wpAny_mono (turn n s hI) (fun r s₁ h₁ => ?_) fun _ _ h' => h')))
  cases r with
  | none => exact wpAny_pure h₁
  | some v =>
    refine wpAny_bind (wpAny_of_eq (show letOwnedTupleGo (.Name y py) it v = pure () from rfl) ?_)
    refine wpAny_bind (wpAny_mono h₁ (fun _ s₂ h₂ => ?_) fun _ _ h' => h')
    exact wpAny_bind (wpAny_bind (wpAny_mono h₂ (fun x s₄ h₄ => wpAny_bind (wpAny_mono h₄ (fun _ s₅ h₅ => wpAny_pure (wpAny_pure ⟨rfl, h₅⟩)) fun _ _ h' => h')) fun _ _ h' => h'))
def upTo (a : Int) (n : Nat) : List Int := (List.range n).map fun (j : Nat) => a + (j : Int) * 1
theorem upTo_snoc {a : Int} {n : Nat} : upTo a (n + 1) = upTo a n ++ [a + (n : Int) * 1] := by
  unfold upTo
  rw [List.range_succ, List.map_append]; rfl
/-- the inner loop: the numbers go to the list -/
theorem two_inner {y : Str} {pe py : Pos} {T1 it1 it2 : PySem.Expr} {scope : Scope} {pos : Pos} {env : Env} {I D : Addr} {a : Int} {n : Nat} {ys : List Value} {m : Str → Option Value} (hh : A.handled = none)
    (hk : env.scope.kind = .function) (hy : env.kindOf y = some .local) (hdb : (y == ("__debug__" : Str)) = false)
    (hIC : I ≠ env.locals) (hID : I ≠ D) (hDC : D ≠ env.locals) (hsz : ys.length + n ≤ sizeLine)
    (hst : IsRangeIter s.heap I a n 1) (hns : s.heap.Ns env.locals m) (hD : s.heap.get? D = some (LCg.lst ys))
    (fin : ∀ h' tk zs m', IntsAre zs (upTo a n) → h'.Ns env.locals m' → h'.get? D = some (LCg.lst (ys ++ zs)) → (∀ b o, b ≠ I → b ≠ env.locals → b ≠ D → s.heap.get? b = some o → h'.get? b = some o) → R (.ok .next) { s with heap := h', toks := tk }) :
    codeAny (model prog w) A (.compLoop (two y pe py T1 it1 it2 scope pos) 1 (.ref I) (.ref D) env) R s := by
  have W := Walks.range (prog := prog) (w := w) hh I a 1 n
  refine two_loopIn (fun k s' => ∃ h' tk j zs m', s' = { s with heap := h', toks := tk } ∧ j ≤ n ∧ k = n + 1 - j ∧ IntsAre zs (upTo a j) ∧ IsRangeIter h' I (a + (j : Nat) * 1) ((n : Int) - (j : Nat)) 1 ∧ h'.Ns env.locals m' ∧ h'.get? D = some (LCg.lst (ys ++ zs)) ∧
    (∀ b o, b ≠ I → b ≠ env.locals → b ≠ D → s.heap.get? b = some o → h'.get? b = some o)) ?_ (n + 1) ⟨s.heap, s.toks, 0, [], m, rfl, Nat.zero_le _, rfl, .nil, by simpa using hst, hns, by simpa using hD, fun _ _ _ _ _ e => e⟩
  rintro k s' ⟨h', tk, j, zs, m', rfl, hj, rfl, hz, hst', hn', hD', hf⟩
  by_cases hlt : j < n
  · refine W.item j _ _ _ hlt hst' fun v h₂ tk₂ hPv hst₂ hk₂ => ?_
    obtain ⟨t, rfl⟩ := hPv
    have k2 : ∀ b o, b ≠ I → h'.get? b = some o → h₂.get? b = some o := fun b o hb e => hk₂ b o (by simpa using hb) e
    refine wpAny_assign_Name (wpAny_storeName_local hy (hn'.at' fun o e => k2 _ o (Ne.symm hIC) e) (fun h₃ hn₃ hs₃ => ?_) (by simp [hk]))
    refine wpAny_Name (wpAny_loadName_local (v := .int (a + (j : Int) * 1) t) hk hy hn₃ (if_pos rfl) ?_) hdb
    have hD3 : h₃.get? D = some (LCg.lst (ys ++ zs)) := hs₃.extBut _ _ hDC (k2 _ _ (Ne.symm hID) hD')
    have hzl : zs.length = j := by rw [hz.length]; unfold upTo; simp
    refine append_at (hsz := by show (ys ++ zs).toArray.size ≤ sizeLine; rw [List.size_toArray, List.length_append]; omega) hD3 fun h₅ hs₅ hD₅ => ?_
    have hst3 : IsRangeIter h₃ I (a + ((j + 1 : Nat) : Nat) * 1) ((n : Int) - ((j + 1 : Nat) : Nat)) 1 := hs₃.extBut _ _ hIC hst₂
    refine ⟨n + 1 - (j + 1), by omega, h₅, _, j + 1, zs ++ [.int (a + (j : Int) * 1) t], _, rfl, hlt, rfl, ?_, hs₅.extBut _ _ hID hst3, hn₃.sameBut hs₅ (Ne.symm hDC), ?_, fun b o h1 h2 h3 e => hs₅.extBut _ _ h3 (hs₃.extBut _ _ h2 (k2 _ _ h1 (hf b o h1 h2 h3 e)))⟩
    · rw [upTo_snoc]
      exact hz.append (.cons _ _ .nil)
    · rw [← List.append_assoc, ← LCg.lst_snoc]
      exact hD₅
  · obtain rfl : j = n := Nat.le_antisymm hj (Nat.not_lt.mp hlt)
    refine W.done _ _ _ hst' fun h₂ tk₂ hk₂ => ?_
    have k2 : ∀ b o, b ≠ I → h'.get? b = some o → h₂.get? b = some o := fun b o hb e => hk₂ b o (by simpa using hb) e
    exact fin h₂ tk₂ zs m' hz (hn'.at' fun o e => k2 _ o (Ne.symm hIC) e) (k2 _ _ (Ne.symm hID) hD') fun b o h1 h2 h3 e => k2 _ _ h1 (hf b o h1 h2 h3 e)
theorem two_loopOut {y : Str} {pe py : Pos} {T1 it1 it2 : PySem.Expr} {scope : Scope} {pos : Pos} {it acc : Value} {env : Env} (I : Nat → Shared → Prop) (hf : ∀ x, foldedSetIterable it2 env x = pure x)
    (turn : ∀ n s, I n s → wpAny (model prog w) A (pyNext it) (fun r s₁ => match r with
      | none => R (.ok .next) s₁
      | some v => wpAny (model prog w) A (letOwnedTupleGo T1 it v) (fun _ s₂ => wpAny (model prog w) A (assign T1 env v) (fun _ s₃ => wpAny (model prog w) A (eval it2 env) (fun x s₄ =>
          wpAny (model prog w) A (pyIter x) (fun it' s₅ => codeAny (model prog w) (A.mark none) (.compStart (two y pe py T1 it1 it2 scope pos) 1 it' acc env) (fun r s' => ∃ f m, r = .ok f ∧ m < n ∧ I m s') s₅) (notedBy (model prog w) A env fun e s' => R (.error e) s') s₄)
          (notedBy (model prog w) A env fun e s' => R (.error e) s') s₃) (notedBy (model prog w) A env fun e s' => R (.error e) s') s₂) (notedBy (model prog w) A env fun e s' => R (.error e) s') s₁) (notedBy (model prog w) A env fun e s' => R (.error e) s') s)
    (n : Nat) (h : I n s) : codeAny (model prog w) A (.compLoop (two y pe py T1 it1 it2 scope pos) 0 it acc env) R s := by
  refine codeAny_loop rfl I (fun n s hI => ?_) n h
  show wpAny _ A ((compTurn (two y pe py T1 it1 it2 scope pos) 0 it acc env).onRaise (fun x => do noteFrame x env; theTreesLotGoes x)) _ _ s
  refine wpAny_noted ?_
  rw [two_out]
  refine wpAny_bind (wpAny_standAt (wpAny_bind (wpAny_mono (turn n s hI) (fun r s₁ h₁ => ?_) fun _ _ h' => h')))
  cases r with
  | none => exact wpAny_pure h₁
  | some v =>
    refine wpAny_bind (wpAny_mono h₁ (fun _ s₂ h₂ => ?_) fun _ _ h' => h')
    refine wpAny_bind (wpAny_mono h₂ (fun _ s₃ h₃ => ?_) fun _ _ h' => h')
    refine wpAny_bind (wpAny_mono h₃ (fun x s₄ h₄ => ?_) fun _ _ h' => h')
    refine wpAny_bind (wpAny_standAt (wpAny_bind (wpAny_of_eq (hf x) (wpAny_bind (wpAny_holding (wpAny_mono h₄ (fun it' s₅ h₅ => ?_) fun _ _ h' => h'))))))
    refine wpAny_bind (wpAny_runOwn (codeAny_mono h₅ (fun r s₆ h₆ => ?_)))
    obtain ⟨f, m, rfl, hm, hI'⟩ := h₆
    exact wpAny_pure ⟨rfl, m, hm, hI'⟩
/-- what is left of the outer clause -/
noncomputable def Rest2 (prog : Program) (w : World) (A : Around) (h₀ : Heap) (L : Addr) (m : Str → Option Value) (env : Env) (it2 : PySem.Expr) (x x₂ : Str) (scope : Scope) (cl : List (Str × Addr)) (s : Shared) (news : Led) (P : Nat → Value → Prop) (Fin : List Value → Prop) : Nat → Nat → List Value → Prop
  | 0, _, ys => Fin ys
  | k + 1, i, ys => ∀ v, P i v → ∃ (t : Addr) (ot : Obj) (v₁ v₂ : Value) (nt : Nat), v = .ref t ∧ (t, ot) ∈ news ∧ ot.cls = .type "tuple" ∧ ot.data = .seq #[v₁, v₂] nt ∧
      ∀ I oI C oC D m₂ h tk (E' : Value → Shared → Prop), LCg.NsObj oC m₂ → m₂ x = some v₁ → m₂ x₂ = some v₂ → Fr h₀ L h m → News h₀ L h ((I, oI) :: (C, oC) :: (D, LCg.lst ys) :: news) → LCg.Off3 I C D news → ((@Ne Nat I C) ∧ (@Ne Nat I D) ∧ (@Ne Nat C D)) →
      wpAny (model prog w) A (eval it2 (compEnvC scope cl C env)) (fun xv s' => ∃ h' tk' r a b n t u z, s' = { s with heap := h', toks := tk' } ∧ xv = Value.ref r ∧ Fr h₀ L h' m ∧ News h₀ L h' ((I, oI) :: (C, oC) :: (D, LCg.lst ys) :: news) ∧ IsRange h' r a b 1 t u z ∧ Builtin.Range.small a b 1 = true ∧ Builtin.Range.rangeSize a b 1 = ((n : Nat) : Int) ∧ ys.length + n ≤ sizeLine ∧
        ∀ zs, IntsAre zs (upTo a n) → Rest2 prog w A h₀ L m env it2 x x₂ scope cl s news P Fin k (i + 1) (ys ++ zs)) E' { s with heap := h, toks := tk }
end
section
variable {prog : Program} {w : World} {A : Around} {E : Value → Shared → Prop} {s : Shared} {h₀ : Heap} {L : Addr} {m : Str → Option Value} {env : Env}
set_option maxHeartbeats 1600000 in
theorem ListComp_2 {it1 it2 : PySem.Expr} {x x₂ y : Str} {px px₂ tp py pe : Pos} {tk : Nat} {scope : Scope} {cl : List (Str × Addr)} {pos : Pos} {Q : Value → Shared → Prop} (_F₀ : Fr h₀ L s.heap m)
    (hclos : closureFor scope env = pure cl) (hcell : ∀ z ∈ scope.names, z.2 ≠ .cell) (hkind : scope.kind = .function)
    (hnames : ∀ z ∈ scope.names, z.2 = .local → scope.names.lookup z.1 = some .local) (hx : scope.names.lookup x = some .local) (hx₂ : scope.names.lookup x₂ = some .local) (hy : scope.names.lookup y = some .local) (hxx : x ≠ x₂) (hdb : (y == ("__debug__" : Str)) = false)
    (hs1 : ∀ x, foldedSetIterable it1 env x = pure x) (hs2 : ∀ C x, foldedSetIterable it2 (compEnvC scope cl C env) x = pure x)
    (h : wpAny (model prog w) A (eval it1 env) (fun xv s₁ => ∃ ax its k news, xv = Value.ref ax ∧ A.handled = none ∧ Fr h₀ L s₁.heap m ∧ News h₀ L s₁.heap news ∧ (ax, ({ cls := .type "list", data := .seq its k } : Obj)) ∈ news ∧
      ∀ s₂ : Shared, (∃ g, s₂ = { s₁ with heap := g }) → Rest2 prog w A h₀ L m env it2 x x₂ scope cl s₂ news (fun i v => its[i]? = some v) (fun ys => LCg.FinE h₀ L m s₂ Q ys news) its.size 0 []) E s) :
    wpAny (model prog w) A (eval (two y pe py (.Tuple [.Name x px, .Name x₂ px₂] tk tp) it1 it2 scope pos) env) Q E s := by
  rw [eval_ListComp]
  refine wpAny_comprehension_free (use := none) rfl hs1 hclos hkind hnames (wpAny_mono h (fun xv s₁ h₁ => ?_) fun _ _ e => e)
  obtain ⟨ax, its, k, news, rfl, hh, F, N, hax, R0⟩ := h₁
  have hl : s₁.heap.IsList ax its := ⟨_, (N _ hax).1, rfl, _, rfl⟩
  have hlt : ax < s₁.heap.objs.size := Heap.lt_size (N _ hax).1
  refine wpAny_pyIter_list hl ?_
  have it0 : (s₁.heap.push { cls := .type "list_iterator", data := .fields #[.ref ax, .int 0 0] }).IsListIter s₁.heap.objs.size ax 0 := ⟨_, Heap.get?_push_size _ rfl, rfl, rfl⟩
  generalize hI : s₁.heap.objs.size = I at *
  have hIlt : ∀ p ∈ news, p.1 < I := fun p hp => hI ▸ Heap.lt_size (N p hp).1
  have hLlt : L < I := hI ▸ F.ns.lt
  generalize hH1 : s₁.heap.push _ = H1 at it0 ⊢
  have sH1 : H1.objs.size = I + 1 := by rw [← hH1, Heap.size_push, hI]
  have up1 : ∀ b o, s₁.heap.get? b = some o → H1.get? b = some o := fun b o e => hH1 ▸ Heap.get?_push_of_some _ e
  refine wpAny_newObj_type (wpAny_newFunctionEnv hcell (by intro z hz; simp at hz) (fun h₁ hns₁ hsb₁ => ?_) hkind)
  dsimp only at hns₁ hsb₁ ⊢
  generalize hH2 : H1.push _ = H2 at hns₁ hsb₁ ⊢
  have sH2 : H2.objs.size = I + 1 + 1 := by rw [← hH2, Heap.size_push, sH1]
  rw [sH2] at hns₁ hsb₁ ⊢
  rw [sH1]
  generalize hD : I + 1 = D at *
  generalize hC : D + 1 = C at *
  have lID : I < D := hD ▸ Nat.lt_succ_self I
  have lDC : D < C := hC ▸ Nat.lt_succ_self D
  have up2 : ∀ b o, H1.get? b = some o → H2.get? b = some o := fun b o e => hH2 ▸ Heap.get?_push_of_some _ e
  have up3 : ∀ b o, b ≠ C → H2.get? b = some o → h₁.get? b = some o := fun b o hb e => hsb₁.extBut b o hb (Heap.get?_push_of_some _ e)
  have old : ∀ b o, s₁.heap.get? b = some o → h₁.get? b = some o := fun b o e => up3 b o (Nat.ne_of_lt (Nat.lt_trans (Nat.lt_trans (hI ▸ Heap.lt_size e) lID) lDC)) (up2 b o (up1 b o e))
  have hD1 : h₁.get? D = some (LCg.lst []) := up3 D _ (Nat.ne_of_lt lDC) (hH2 ▸ sH1 ▸ Heap.get?_push_size _ rfl)
  have hst1 : h₁.IsListIter I ax 0 := by
    obtain ⟨o, e, r⟩ := it0
    exact ⟨o, up3 I o (Nat.ne_of_lt (Nat.lt_trans lID lDC)) (up2 I o e), r⟩
  have fresh₀ : ∀ b, I ≤ b → h₀.get? b = none := fun b hb => by
    cases e : h₀.get? b with
    | none => rfl
    | some o' => exact absurd (hI ▸ Heap.lt_size (F.keep b o' e)) (Nat.not_lt.mpr hb)
  have hI₀ := fresh₀ I (Nat.le_refl _)
  have hD₀ := fresh₀ D (Nat.le_of_lt lID)
  have hC₀ := fresh₀ C (Nat.le_of_lt (Nat.lt_trans lID lDC))
  have nLI : L ≠ I := Nat.ne_of_lt hLlt
  have nLD : L ≠ D := Nat.ne_of_lt (Nat.lt_trans hLlt lID)
  have nLC : L ≠ C := Nat.ne_of_lt (Nat.lt_trans (Nat.lt_trans hLlt lID) lDC)
  have nIC : I ≠ C := Nat.ne_of_lt (Nat.lt_trans lID lDC)
  have nn : ∀ p ∈ news, p.1 ≠ I ∧ p.1 ≠ C ∧ p.1 ≠ D := fun p hp => ⟨Nat.ne_of_lt (hIlt p hp), Nat.ne_of_lt (Nat.lt_trans (hIlt p hp) (Nat.lt_trans lID lDC)), Nat.ne_of_lt (Nat.lt_trans (hIlt p hp) lID)⟩
  have W := Walks.list (prog := prog) (w := w) hh I ax (Nat.ne_of_lt hlt) its
  have henv : (compEnvC scope cl C env).scope.kind = .function := by simp [compEnvC, relabel, hkind]
  have R1 := R0 { s₁ with heap := h₁ } ⟨_, rfl⟩
  have hmark : (A.mark none).handled = none := by simp [Around.mark, hh]
  have loop : codeAny (model prog w) A (.compLoop (two y pe py (.Tuple [.Name x px, .Name x₂ px₂] tk tp) it1 it2 scope pos) 0 (.ref I) (.ref D) (compEnvC scope cl C env)) (compPost (model prog w) A E none Q (.ref D) C) { s₁ with heap := h₁ } := by
    refine two_loopOut (fun n s' => ∃ h' tk' i ys m', s' = { s₁ with heap := h', toks := tk' } ∧ i ≤ its.size ∧ n = its.size + 1 - i ∧ h'.IsListIter I ax i ∧ Fr h₀ L h' m ∧ h'.Ns C m' ∧ News h₀ L h' ((D, LCg.lst ys) :: news) ∧
      Rest2 prog w A h₀ L m env it2 x x₂ scope cl { s₁ with heap := h₁ } news (fun i v => its[i]? = some v) (fun ys => LCg.FinE h₀ L m { s₁ with heap := h₁ } Q ys news) (its.size - i) i ys) (hs2 C) ?_ (its.size + 1)
      ⟨h₁, s₁.toks, 0, [], _, rfl, Nat.zero_le _, rfl, hst1, F.keeps old, hns₁, ?_, R1⟩
    · rintro n s' ⟨h', tk', i, ys, m', rfl, hi, rfl, hit, F', hn', N', R'⟩
      have hl' : h'.IsList ax its := ⟨_, (N' _ (.tail _ hax)).1, rfl, _, rfl⟩
      by_cases hlt' : i < its.size
      · obtain ⟨j, hj⟩ : ∃ j, its.size - i = j + 1 := ⟨its.size - i - 1, by omega⟩
        rw [hj] at R'
        refine W.item i _ _ _ hlt' ⟨hit, hl'⟩ fun v h₂ tk₂ hPv hst₂ hk₂ => ?_
        have k2 : ∀ b o, b ≠ I → h'.get? b = some o → h₂.get? b = some o := fun b o hb e => hk₂ b o (by simpa using hb) e
        obtain ⟨t, ot, v₁, v₂, nt, rfl, hmt, hct, hdt, R''⟩ := R' v hPv
        have N₂ : News h₀ L h₂ ((D, LCg.lst ys) :: news) := fun p hp => ⟨k2 _ _ (by
          rcases List.mem_cons.mp hp with rfl | hp
          · exact Nat.ne_of_gt lID
          · exact (nn p hp).1) (N' p hp).1, (N' p hp).2⟩
        have ht : IsTup h₂ t #[v₁, v₂] := ⟨ot, (N₂ _ (.tail _ hmt)).1, hct, nt, hdt⟩
        refine wpAny_letOwnedTupleGo_listiter hst₂.1 ?_
        refine assign_Tuple_tuple hh ht rfl rfl fun h₅ he => ?_
        have he' : ∀ b o, h₂.get? b = some o → h₅.get? b = some o := fun b o e => he b o (Nat.ne_of_lt (Heap.lt_size e)) e
        refine assignInOrder_cons (wpAny_assign_Name (wpAny_storeName_local (lookup_relabel_local hx) ((hn'.at' fun o e => k2 _ o nIC.symm e).at' fun o e => he' _ o e) (fun h₆ hn₆ hs₆ => ?_) (by simp [compEnvC, relabel, hkind])))
        refine assignInOrder_cons (wpAny_assign_Name (wpAny_storeName_local (lookup_relabel_local hx₂) hn₆ (fun h₃ hn₃ hs₃ => ?_) (by simp [compEnvC, relabel, hkind])))
        refine assignInOrder_nil ?_
        have k3 : ∀ b o, b ≠ C → h₂.get? b = some o → h₃.get? b = some o := fun b o hb e => hs₃.extBut b o hb (hs₆.extBut b o hb (he' b o e))
        obtain ⟨oI, heI, hcI, hdI⟩ := hst₂.1
        have heI3 := k3 I oI nIC heI
        obtain ⟨oC, heC, hoC⟩ := LCg.ns_obj hn₃
        have F₃ : Fr h₀ L h₃ m := ⟨F'.ns.at' fun o e => k3 _ o nLC (k2 _ o nLI e), fun b o e => k3 b o (fun q => by rw [q, hC₀] at e; cases e) (k2 b o (fun q => by rw [q, hI₀] at e; cases e) (F'.keep b o e)), F'.above⟩
        have N₃ : News h₀ L h₃ ((I, oI) :: (C, oC) :: (D, LCg.lst ys) :: news) := fun p hp => by
          rcases List.mem_cons.mp hp with rfl | hp
          · exact ⟨heI3, nLI.symm, hI₀⟩
          rcases List.mem_cons.mp hp with rfl | hp
          · exact ⟨heC, nLC.symm, hC₀⟩
          · refine ⟨k3 _ _ ?_ (N₂ p hp).1, (N₂ p hp).2⟩
            rcases List.mem_cons.mp hp with rfl | hp
            · exact Nat.ne_of_lt lDC
            · exact (nn p hp).2.1
        refine wpAny_mono (R'' I oI C oC D _ h₃ _ _ hoC (by simp [hxx]) (by simp) F₃ N₃ (LCg.Off3.of nn) ⟨nIC, Nat.ne_of_lt lID, Nat.ne_of_gt lDC⟩) (fun xv s₄ h₄ => ?_) fun _ _ e => e
        obtain ⟨h₄, tk₄, r, a, b, n, t', u', z', rfl, rfl, F₄, N₄, hr, hsm, hsize, hlen, R₄⟩ := h₄
        refine wpAny_pyIter_range hr hsm ?_
        have zI := (N₄ _ (.head _)).1
        have zC := (N₄ _ (.tail _ (.head _))).1
        have zD := (N₄ _ (.tail _ (.tail _ (.head _)))).1
        dsimp only
        generalize hH5 : h₄.push _ = H5
        have up5 : ∀ b o, h₄.get? b = some o → H5.get? b = some o := fun b o e => hH5 ▸ Heap.get?_push_of_some _ e
        have st5 : IsRangeIter H5 h₄.objs.size a n 1 := by
          show H5.get? _ = some _
          rw [← hH5, hsize]
          exact Heap.get?_push_size _ rfl
        have I2C : h₄.objs.size ≠ C := Nat.ne_of_gt (Heap.lt_size zC)
        have I2D : h₄.objs.size ≠ D := Nat.ne_of_gt (Heap.lt_size zD)
        have inner : codeAny (model prog w) (A.mark none) (.compLoop (two y pe py (.Tuple [.Name x px, .Name x₂ px₂] tk tp) it1 it2 scope pos) 1 (.ref h₄.objs.size) (.ref D) (compEnvC scope cl C env))
            (fun r s' => ∃ f m_1, r = .ok f ∧ m_1 < its.size + 1 - i ∧ ∃ h' tk' i ys m', s' = { s₁ with heap := h', toks := tk' } ∧ i ≤ its.size ∧ m_1 = its.size + 1 - i ∧ h'.IsListIter I ax i ∧ Fr h₀ L h' m ∧ h'.Ns C m' ∧ News h₀ L h' ((D, LCg.lst ys) :: news) ∧
              Rest2 prog w A h₀ L m env it2 x x₂ scope cl { s₁ with heap := h₁ } news (fun i v => its[i]? = some v) (fun ys => LCg.FinE h₀ L m { s₁ with heap := h₁ } Q ys news) (its.size - i) i ys)
            { s₁ with heap := H5, toks := tk₄ } := by
          refine two_inner (a := a) (n := n) (ys := ys) (m := _) hmark henv (lookup_relabel_local hy) hdb I2C I2D (Nat.ne_of_lt lDC) hlen st5 ((hoC.ns zC).at' fun o e => up5 _ o e) (up5 _ _ zD) fun h₆ tk₆ zs m₆ hz hn₆ hD₆ hf₆ => ?_
          have keep6 : ∀ b o, b ≠ C → b ≠ D → h₄.get? b = some o → h₆.get? b = some o := fun b o hb hb2 e => hf₆ b o (Nat.ne_of_lt (Heap.lt_size e)) hb hb2 (up5 _ _ e)
          refine ⟨_, its.size + 1 - (i + 1), rfl, by omega, h₆, tk₆, i + 1, ys ++ zs, m₆, rfl, hlt', rfl, ⟨oI, keep6 _ _ nIC (Nat.ne_of_lt lID) zI, hcI, hdI⟩, ?_, hn₆, ?_, ?_⟩
          · exact ⟨F₄.ns.at' fun o e => keep6 _ o nLC nLD e, fun b o e => keep6 b o (fun q => by rw [q, hC₀] at e; cases e) (fun q => by rw [q, hD₀] at e; cases e) (F₄.keep b o e), F₄.above⟩
          · intro p hp
            rcases List.mem_cons.mp hp with rfl | hp
            · exact ⟨hD₆, nLD.symm, hD₀⟩
            · exact ⟨keep6 _ _ (nn p hp).2.1 (nn p hp).2.2 (N₄ p (.tail _ (.tail _ (.tail _ hp)))).1, (N' p (.tail _ hp)).2⟩
          · rw [show its.size - (i + 1) = j by omega]
            exact R₄ zs hz
        exact two_startIn inner (wpAny_pyIter_rangeiter st5 inner)
      · obtain rfl : i = its.size := Nat.le_antisymm hi (Nat.not_lt.mp hlt')
        rw [Nat.sub_self] at R'
        refine W.done _ _ _ ⟨hit, hl'⟩ fun h₂ tk₂ hk₂ => ?_
        have k2 : ∀ b o, b ≠ I → h'.get? b = some o → h₂.get? b = some o := fun b o hb e => hk₂ b o (by simpa using hb) e
        refine ⟨m', hn'.at' fun o e => k2 _ o nIC.symm e, fun h'' hs'' => ?_⟩
        have k3 : ∀ b o, b ≠ I → b ≠ C → h'.get? b = some o → h''.get? b = some o := fun b o h1 h2 e => hs''.extBut b o h2 (k2 b o h1 e)
        refine R' D h'' tk₂ ⟨F'.ns.at' fun o e => k3 _ o nLI nLC e, fun b o e => k3 b o (fun q => by rw [q, hI₀] at e; cases e) (fun q => by rw [q, hC₀] at e; cases e) (F'.keep b o e), F'.above⟩ (fun p hp => ?_) (LCg.Off3.one (I := I) (C := C) (LCg.Off3.of nn))
        refine ⟨k3 _ _ ?_ ?_ (N' p hp).1, (N' p hp).2⟩
        · rcases List.mem_cons.mp hp with rfl | hp
          · exact Nat.ne_of_gt lID
          · exact (nn p hp).1
        · rcases List.mem_cons.mp hp with rfl | hp
          · exact Nat.ne_of_lt lDC
          · exact (nn p hp).2.1
    · intro p hp
      rcases List.mem_cons.mp hp with rfl | hp
      · exact ⟨hD1, nLD.symm, hD₀⟩
      · exact ⟨old _ _ (N p hp).1, (N p hp).2⟩
  exact codeAny_compStart_list loop (W.self 0 _ _ _ ⟨hst1, _, (N _ hax).1 |> old _ _, rfl, _, rfl⟩ loop)
theorem rest2_inv {it2 : PySem.Expr} {x x₂ : Str} {scope : Scope} {cl : List (Str × Addr)} {news : Led} {P : Nat → Value → Prop} {Fin : List Value → Prop} (Inv : Nat → List Value → Prop) {n : Nat}
    (hFin : ∀ ys, Inv n ys → Fin ys)
    (turn : ∀ i ys v, i < n → Inv i ys → P i v → ∃ (t : Addr) (ot : Obj) (v₁ v₂ : Value) (nt : Nat), v = .ref t ∧ (t, ot) ∈ news ∧ ot.cls = .type "tuple" ∧ ot.data = .seq #[v₁, v₂] nt ∧
      ∀ I oI C oC D m₂ h tk (E' : Value → Shared → Prop), LCg.NsObj oC m₂ → m₂ x = some v₁ → m₂ x₂ = some v₂ → Fr h₀ L h m → News h₀ L h ((I, oI) :: (C, oC) :: (D, LCg.lst ys) :: news) → LCg.Off3 I C D news → ((@Ne Nat I C) ∧ (@Ne Nat I D) ∧ (@Ne Nat C D)) →
      wpAny (model prog w) A (eval it2 (compEnvC scope cl C env)) (fun xv s' => ∃ h' tk' r a b n t u z, s' = { s with heap := h', toks := tk' } ∧ xv = Value.ref r ∧ Fr h₀ L h' m ∧ News h₀ L h' ((I, oI) :: (C, oC) :: (D, LCg.lst ys) :: news) ∧ IsRange h' r a b 1 t u z ∧ Builtin.Range.small a b 1 = true ∧ Builtin.Range.rangeSize a b 1 = ((n : Nat) : Int) ∧ ys.length + n ≤ sizeLine ∧
        ∀ zs, IntsAre zs (upTo a n) → Inv (i + 1) (ys ++ zs)) E' { s with heap := h, toks := tk }) :
    ∀ k i ys, i + k = n → Inv i ys → Rest2 prog w A h₀ L m env it2 x x₂ scope cl s news P Fin k i ys
  | 0, i, ys, hk, hI => hFin _ (by have : i = n := by omega
                                   rw [← this]; exact hI)
  | k + 1, i, ys, hk, hI => fun v hv => by
    obtain ⟨t, ot, v₁, v₂, nt, e, hm, hc, hd, go⟩ := turn i ys v (by omega) hI hv
    refine ⟨t, ot, v₁, v₂, nt, e, hm, hc, hd, fun I oI C oC D m₂ h tk E' a1 a2 a3 a4 a5 a6 a7 => ?_⟩
    refine wpAny_mono (go I oI C oC D m₂ h tk E' a1 a2 a3 a4 a5 a6 a7) (fun xv s' q => ?_) fun _ _ e => e
    obtain ⟨h', tk', r, a, b, n', t', u, z, q1, q2, q3, q4, q5, q6, q7, q8, q9⟩ := q
    exact ⟨h', tk', r, a, b, n', t', u, z, q1, q2, q3, q4, q5, q6, q7, q8, fun zs hz => rest2_inv Inv hFin turn k (i + 1) _ (by omega) (q9 zs hz)⟩
end
end Mine
end
section
open PySem PySem.W PyProof.Rows
namespace Mine
local macro_rules | `(tactic| walk_at "mine enter") => `(tactic| ((case kA => exact rfl); (case kF => exact rfl); (case kK => first | exact rfl | assumption); (case k1 => k_asm); (case k2 => k_asm); (case k3 => k_asm); (case k4 => k_asm); (case k5 => k_asm); (case k6 => k_is); (case k7 => k_is); (case k8 => exact depth_ok (by assumption) (by decide)); (case k9 => exact BindsTo.of_eq rfl); (case kB => exact locs rfl); (case c2 => exact rfl); (case c3 => exact rfl); (case c4 => exact rfl); (case c5 => decide); k_whole))
local macro_rules | `(tactic| walk_at "mine enterC") => `(tactic| ((case kA => exact rfl); (case kF => exact rfl); (case kK => first | exact rfl | assumption); (case k1 => k_asm); (case k2 => k_asm); (case k3 => k_asm); (case k4 => k_asm); (case k5 => k_asm); (case k6 => k_is); (case k7 => k_is); (case k8 => exact depth_ok (by assumption) (by decide)); (case k9 => exact BindsTo.of_eq rfl); (case kB => exact rfl); (case kD => decide +kernel); (case c2 => exact rfl); (case c3 => exact rfl); (case c4 => exact rfl); k_whole))
local macro_rules | `(tactic| walk_at "mine use") => `(tactic| ((case uB => assumption); (case uF => assumption); (case uX => assumption); (case uN => assumption); (case uT => assumption); (case uk => first | exact rfl | assumption); (case u1 => ((try dsimp only [ktrTop]); omega)); (case u2 => ((try dsimp only [ktrTop]); omega))))
section
theorem fillK' : PySem.Challenge.rw_rg0248_01 = PySem.Challenge.rw_rg0248_01 ∧ hd.heap_39 = hd.heap_39 := by k_fill; exact ⟨rfl, rfl⟩
set_option maxRecDepth 100000 in
set_option maxHeartbeats 800000 in
theorem has_does {w : World} {mean : ExcName → Option Value} {mg mb : Str → Option Value} {rs : List Pr} {n : Int} (hlen : rs.length ≤ 1000) :
    Does w mean mg mb 58 3 (fun news vs => ∃ v t, vs = [v, .int n t] ∧ PairsAt rs news v) (fun _ r => r = .bool (hasN rs n)) := by
  intro dp un gd cn cs a ccd cl outer A₀ base h₀ L m news s vs Q E B F X N T hk hR hd hu hret
  obtain ⟨v, t, rfl, a, vs, nn, rfl, hm, hA⟩ := hR
  refine wpAny_call ?_
  k_dflt (refine' code_defC (binds := [(Str.ofString "ranges", .ref a), (Str.ofString "n", .int n t)]) ?k1 ?k2 ?k3 ?k4 ?k5 ?kA ?kF ?kK ?k6 ?k7 ?k8 ?k9 ?kB ?kD ?_ ?c2 ?c3 ?c4; walk_at "mine enterC")
  intro g1 L1 h1 tk1 cells1 FG1 F1 N1 Y1 B1 X1 T1 l1
  k_cells Y1
  rename_i oN dN
  simp only [List.cons_append, List.nil_append] at N1
  replace dN : oN.data = .cell (some (.int n t)) := dN
  replace F1 : Fr g1 L1 h1 (fun y => if y = Str.ofString "ranges" then some (.ref a) else none) := F1
  dsimp only
  iterate 6 walk1
  k_dflt (refine LCp.ListComp_P (F₀ := F1) (by with_unfolding_all rfl) (by decide) (by rfl) (by decide) (by rfl) (by rfl) (by decide) ?_)
  walk1
  have hl : vs.length = rs.length := by have := hA.length; rwa [List.length_map] at this
  have hsz : vs.toArray.size ≤ sizeLine := by
    rw [List.size_toArray, sizeLine_eq]; omega
  refine LCp.SrcLP.ledger (ax := a) (its := vs.toArray) (k := nn) rfl F1 N1 (.tail _ hm) hsz fun g' => ?_
  refine compP_inv (n := vs.toArray.size) (fun i ys nw => nw = (L1 + 1, oN) :: news ∧ ys = (rs.take i).map fun p => Value.bool (decide (p.1 ≤ n) && decide (n ≤ p.2))) (fun ys nw hI => ?fin) ?turn _ 0 [] _ (by omega) ⟨rfl, rfl⟩
  case turn =>
    rintro i ys nw v hi ⟨rfl, rfl⟩ hv
    obtain ⟨hi', hd'⟩ := prs_get hA (i := i) (v := v) (by simpa using hv)
    obtain ⟨ta, tn, t1, t2, rfl, htm⟩ := datPr hd'
    refine ⟨ta, _, _, _, _, rfl, .tail _ htm, rfl, rfl, ?_⟩
    intro I oI C oC D m2 h2 tk2 E2 hC hx hx2 F2 N2 off2 ne2
    have fin : ∀ b : Bool, b = (decide (rs[i].1 ≤ n) && decide (n ≤ rs[i].2)) → (rs.take i).map (fun p => Value.bool (decide (p.1 ≤ n) && decide (n ≤ p.2))) ++ [Value.bool b] = (rs.take (i + 1)).map fun p => Value.bool (decide (p.1 ≤ n) && decide (n ≤ p.2)) := by
      intro b hb
      rw [take_step hi', List.map_append, hb]; rfl
    iterate 10 walk1
    · rename_i hle
      exact endKeep F2 N2 off2 (.inr ⟨_, .tail _ hm, rfl, _, rfl⟩) ⟨rfl, fin _ (by simp [hle])⟩
    · rename_i hle
      exact endKeep F2 N2 off2 (.inr ⟨_, .tail _ hm, rfl, _, rfl⟩) ⟨rfl, fin _ (by simp [hle])⟩
  case fin =>
    obtain ⟨rfl, rfl⟩ := hI
    rw [show rs.take vs.toArray.size = rs by rw [List.size_toArray, hl, List.take_length]]
    intro D h2 tk2 F2 N2 off2
    dsimp only
    iterate 1 walk1
    refine LSm.any_bools (bs := rs.map fun p => decide (p.1 ≤ n) && decide (n ≤ p.2)) F2 N2 rfl (News.isList N2 (.head _)) (by have := bools_of (rs.map fun p => decide (p.1 ≤ n) && decide (n ≤ p.2)); rwa [List.map_map] at this) fun h3 tk3 F3 N3 => ?_
    refine leaveK_ F3 (news_sub N3 fun p hp => .tail _ (.tail _ hp)) fun F4 N4 => ?_
    exact hret _ [] _ _ F4 (news_nil N4) off_nil (by rw [List.any_map]; rfl)
end
section
theorem fillK11 : PySem.Challenge.rw_rg0248_01 = PySem.Challenge.rw_rg0248_01 ∧ hd.heap_39 = hd.heap_39 := by k_fill; exact ⟨rfl, rfl⟩
/-- the one frame of the law's packets -/
def FrameAt (news : Led) (ta : Addr) : Prop := ∃ t n, (ta, ({ cls := .type "tuple", data := .seq #[.str (Str.ofString "ping") t] n } : Obj)) ∈ news
set_option maxRecDepth 100000 in
set_option maxHeartbeats 800000 in
theorem elic_does {w : World} {mean : ExcName → Option Value} {mg mb : Str → Option Value} :
    Does w mean mg mb 29 3 (fun news vs => ∃ ta, vs = [.ref ta] ∧ FrameAt news ta) (fun _ r => r = .bool true) := by
  intro dp un gd cn cs a ccd cl outer A₀ base h₀ L m news s vs Q E B F X N T hk hR hd hu hret
  obtain ⟨ta, rfl, t, n, hta⟩ := hR
  refine wpAny_call ?_
  k_dflt (refine' code_def (binds := [(Str.ofString "f", .ref ta)]) ?k1 ?k2 ?k3 ?k4 ?k5 ?kA ?kF ?kK ?k6 ?k7 ?k8 ?k9 ?kB ?_ ?c2 ?c3 ?c4 ?c5; walk_at "mine enter")
  intro g1 L1 h1 FG1 F1 N1 B1 X1 T1
  dsimp only
  k_fold
  iterate 9 walk1
  refine' notin_tuple_strs ?k1 ?k2 ?_
  case k1 => exact ⟨_, F1.keep _ _ (X1 22 _ rfl), rfl, _, rfl⟩
  case k2 => kde_strs
  dsimp only
  iterate 1 walk1
  rename Fr _ _ _ _ => F3
  rename News _ _ _ _ => N3
  exact hret _ [] _ _ F3 (news_nil N3) off_nil (congrArg Value.bool (by decide))
set_option maxRecDepth 100000 in
set_option maxHeartbeats 800000 in
theorem flight_does {w : World} {mean : ExcName → Option Value} {mg mb : Str → Option Value} :
    Does w mean mg mb 36 3 (fun news vs => ∃ ta, vs = [.ref ta] ∧ FrameAt news ta) (fun _ r => r = .bool true) := by
  intro dp un gd cn cs a ccd cl outer A₀ base h₀ L m news s vs Q E B F X N T hk hR hd hu hret
  obtain ⟨ta, rfl, t, n, hta⟩ := hR
  refine wpAny_call ?_
  k_dflt (refine' code_def (binds := [(Str.ofString "f", .ref ta)]) ?k1 ?k2 ?k3 ?k4 ?k5 ?kA ?kF ?kK ?k6 ?k7 ?k8 ?k9 ?kB ?_ ?c2 ?c3 ?c4 ?c5; walk_at "mine enter")
  intro g1 L1 h1 FG1 F1 N1 B1 X1 T1
  dsimp only
  k_fold
  iterate 17 walk1
  rename Fr _ _ _ _ => F3
  rename News _ _ _ _ => N3
  exact hret _ [] _ _ F3 (news_nil (news_sub N3 fun p hp => .tail _ hp)) off_nil (congrArg Value.bool (by decide))
set_option maxRecDepth 100000 in
set_option maxHeartbeats 800000 in
theorem anyE_does {w : World} {mean : ExcName → Option Value} {mg mb : Str → Option Value} :
    Does w mean mg mb 41 16 (fun news vs => ∃ ra ta nr, vs = [.ref ra] ∧ (ra, W.listOf #[.ref ta] nr) ∈ news ∧ FrameAt news ta) (fun _ r => r = .bool true) := by
  intro dp un gd cn cs a ccd cl outer A₀ base h₀ L m news s vs Q E B F X N T hk hR hd hu hret
  obtain ⟨ra, ta, nr, rfl, hra, hta⟩ := hR
  refine wpAny_call ?_
  k_dflt (refine' code_def (binds := [(Str.ofString "row", .ref ra)]) ?k1 ?k2 ?k3 ?k4 ?k5 ?kA ?kF ?kK ?k6 ?k7 ?k8 ?k9 ?kB ?_ ?c2 ?c3 ?c4 ?c5; walk_at "mine enter")
  intro g1 L1 h1 FG1 F1 N1 B1 X1 T1
  dsimp only
  k_fold
  iterate 4 walk1
  k_dflt (refine LCt.ListComp_T (F₀ := F1) (by with_unfolding_all rfl) (by decide) (by rfl) (by decide) (by rfl) ?_)
  walk1
  refine LCt.CompSrcT.ledger (ax := ra) (its := #[.ref ta]) (k := nr) rfl F1 N1 hra (by rw [sizeLine_eq]; simp) fun g' => ?_
  refine compT_inv (n := 1) (fun i ys nw => (nw, ys) = (news, List.replicate i (Value.ref ta))) (fun ys nw hI => ?fin) ?turn _ 0 [] _ rfl rfl
  case turn =>
    rintro i ys nw v hi ⟨⟩ hv I oI C oC D m2 h2 tk2 E2 hC hx F2 N2 off2 ne2
    obtain rfl : i = 0 := by omega
    obtain rfl : v = .ref ta := by simpa using hv.symm
    repeat ((fail_if_success (with_reducible show wpAny _ _ (call (Value.ref _) _) _ _ _)); walk1)
    k_dflt refine' Does.use elic_does ?uB ?uF ?uX ?uN ?uT ?uk ?up ?u1 ?u2 ?_
    walk_at "mine use"
    case up =>
      obtain ⟨t, n, htm⟩ := hta
      exact ⟨_, rfl, t, n, .tail _ (.tail _ (.tail _ htm))⟩
    rintro r tl h3 tk3 F3 N3 off3 rfl
    have N3' := news_sub N3 (news' := (I, oI) :: (C, oC) :: (D, LCg.lst []) :: news) fun p hp => List.mem_append_left _ hp
    iterate 3 walk1
    exact endKeep F3 N3' off2 (.inr ⟨_, hra, rfl, _, rfl⟩) rfl
  case fin =>
    cases hI
    intro D h2 tk2 F2 N2 off2
    dsimp only
    replace N2 : News g1 L1 h2 ((D, W.listOf ([Value.ref ta]).toArray 1) :: news) := N2
    iterate 3 walk1
    rename Fr _ _ _ _ => F3
    rename News _ _ _ _ => N3
    obtain ⟨t, n, htm⟩ := hta
    have hA : DatAll ((ra, W.listOf #[.ref ta] nr) :: news) [.ref ta] [.tuple [.str (Str.ofString "ping")]] := .cons (.tuple (.tail _ htm) (.cons (.str _ _) .nil)) .nil
    refine' kqd_ne (ys := []) (es := []) N3 ?a ?b ?c hA ?e ?f ?g ?i (.nil (news := [])) (fun _ h => nomatch h) ?l ?m ?n ?_
    case a => exact .tail _ (.head _)
    case f => exact .head _
    case b => exact rfl
    case c => exact rfl
    case g => exact rfl
    case i => exact rfl
    case e =>
      intro p hp
      rcases List.mem_cons.mp hp with rfl | hp
      · exact .tail _ (.tail _ hra)
      · exact .tail _ (.tail _ hp)
    case l => intro d hd; rw [List.mem_singleton.mp hd]; decide +kernel
    case m => intro d hd; cases hd
    case n => simp only [units_deeper]; omega
    rw [show (!decide (([.tuple [.str (Str.ofString "ping")]] : List Dat) = [])) = true from by simp]
    walk1
    rename Fr _ _ _ _ => F5
    rename News _ _ _ _ => N5
    exact hret _ [] _ _ F5 (news_nil (news_sub N5 fun p hp => .tail _ (.tail _ hp))) off_nil rfl
set_option maxRecDepth 100000 in
set_option maxHeartbeats 800000 in
theorem anyF_does {w : World} {mean : ExcName → Option Value} {mg mb : Str → Option Value} :
    Does w mean mg mb 46 16 (fun news vs => ∃ ra ta nr, vs = [.ref ra] ∧ (ra, W.listOf #[.ref ta] nr) ∈ news ∧ FrameAt news ta) (fun _ r => r = .bool true) := by
  intro dp un gd cn cs a ccd cl outer A₀ base h₀ L m news s vs Q E B F X N T hk hR hd hu hret
  obtain ⟨ra, ta, nr, rfl, hra, hta⟩ := hR
  refine wpAny_call ?_
  k_dflt (refine' code_def (binds := [(Str.ofString "row", .ref ra)]) ?k1 ?k2 ?k3 ?k4 ?k5 ?kA ?kF ?kK ?k6 ?k7 ?k8 ?k9 ?kB ?_ ?c2 ?c3 ?c4 ?c5; walk_at "mine enter")
  intro g1 L1 h1 FG1 F1 N1 B1 X1 T1
  dsimp only
  k_fold
  iterate 4 walk1
  k_dflt (refine LCt.ListComp_T (F₀ := F1) (by with_unfolding_all rfl) (by decide) (by rfl) (by decide) (by rfl) ?_)
  walk1
  refine LCt.CompSrcT.ledger (ax := ra) (its := #[.ref ta]) (k := nr) rfl F1 N1 hra (by rw [sizeLine_eq]; simp) fun g' => ?_
  refine compT_inv (n := 1) (fun i ys nw => (nw, ys) = (news, List.replicate i (Value.ref ta))) (fun ys nw hI => ?fin) ?turn _ 0 [] _ rfl rfl
  case turn =>
    rintro i ys nw v hi ⟨⟩ hv I oI C oC D m2 h2 tk2 E2 hC hx F2 N2 off2 ne2
    obtain rfl : i = 0 := by omega
    obtain rfl : v = .ref ta := by simpa using hv.symm
    repeat ((fail_if_success (with_reducible show wpAny _ _ (call (Value.ref _) _) _ _ _)); walk1)
    k_dflt refine' Does.use flight_does ?uB ?uF ?uX ?uN ?uT ?uk ?up ?u1 ?u2 ?_
    walk_at "mine use"
    case up =>
      obtain ⟨t, n, htm⟩ := hta
      exact ⟨_, rfl, t, n, .tail _ (.tail _ (.tail _ htm))⟩
    rintro r tl h3 tk3 F3 N3 off3 rfl
    have N3' := news_sub N3 (news' := (I, oI) :: (C, oC) :: (D, LCg.lst []) :: news) fun p hp => List.mem_append_left _ hp
    iterate 3 walk1
    exact endKeep F3 N3' off2 (.inr ⟨_, hra, rfl, _, rfl⟩) rfl
  case fin =>
    cases hI
    intro D h2 tk2 F2 N2 off2
    dsimp only
    replace N2 : News g1 L1 h2 ((D, W.listOf ([Value.ref ta]).toArray 1) :: news) := N2
    iterate 3 walk1
    rename Fr _ _ _ _ => F3
    rename News _ _ _ _ => N3
    obtain ⟨t, n, htm⟩ := hta
    have hA : DatAll ((ra, W.listOf #[.ref ta] nr) :: news) [.ref ta] [.tuple [.str (Str.ofString "ping")]] := .cons (.tuple (.tail _ htm) (.cons (.str _ _) .nil)) .nil
    refine' kqd_ne (ys := []) (es := []) N3 ?a ?b ?c hA ?e ?f ?g ?i (.nil (news := [])) (fun _ h => nomatch h) ?l ?m ?n ?_
    case a => exact .tail _ (.head _)
    case f => exact .head _
    case b => exact rfl
    case c => exact rfl
    case g => exact rfl
    case i => exact rfl
    case e =>
      intro p hp
      rcases List.mem_cons.mp hp with rfl | hp
      · exact .tail _ (.tail _ hra)
      · exact .tail _ (.tail _ hp)
    case l => intro d hd; rw [List.mem_singleton.mp hd]; decide +kernel
    case m => intro d hd; cases hd
    case n => simp only [units_deeper]; omega
    rw [show (!decide (([.tuple [.str (Str.ofString "ping")]] : List Dat) = [])) = true from by simp]
    walk1
    rename Fr _ _ _ _ => F5
    rename News _ _ _ _ => N5
    exact hret _ [] _ _ F5 (news_nil (news_sub N5 fun p hp => .tail _ (.tail _ hp))) off_nil rfl
end
section
theorem fillK6 : PySem.Challenge.rw_rg0248_01 = PySem.Challenge.rw_rg0248_01 ∧ hd.heap_39 = hd.heap_39 := by k_fill; exact ⟨rfl, rfl⟩
set_option maxRecDepth 100000 in
theorem tupCC {w : World} {A : Around} {E Q : Value → Shared → Prop} {s : Shared} {env : Env} {h₀ : Heap} {m : Str → Option Value} {news : Led} {a b : Int} {k1 k2 kt : Nat} {p1 p2 p3 : Pos}
    (F : Fr h₀ env.locals s.heap m) (N : News h₀ env.locals s.heap news)
    (h : ∀ D h' tk' t1 t2, Fr h₀ env.locals h' m → News h₀ env.locals h' ((D, ({ cls := .type "tuple", data := .seq #[.int a t1, .int b t2] } : Obj)) :: news) → (∀ p ∈ news, p.1 < D) → Q (.ref D) { s with heap := h', toks := tk' }) :
    wpAny (model PySem.Challenge.rw_rg0248_01.row.prog w) A (eval (Expr.Tuple [Expr.Constant (Const.int a) k1 p1, Expr.Constant (Const.int b) k2 p2] kt p3) env) Q E s := by
  iterate 6 walk1
  exact kup_newTuple F N (fun D h' F' N' l' => h D h' _ _ _ F' N' l') (by rw [sizeLine_eq]; simp)
def keepFrom (D0 : Addr) (l : Led) : Led := l.filter fun p => decide (D0 ≤ p.1)
theorem mem_keep {D0 a : Addr} {l : Led} {o : Obj} (h : (a, o) ∈ l) (hd : @LE.le Nat _ D0 a) : (a, o) ∈ keepFrom D0 l := List.mem_filter.mpr ⟨h, by simpa using hd⟩
theorem off_keep {D0 : Addr} {l news : Led} (h : ∀ p ∈ news, p.1 < D0) : OwnOff (keepFrom D0 l) (news.map (·.1)) := by
  intro p hp b hb
  obtain ⟨q, hq, rfl⟩ := List.mem_map.mp hb
  have h1 := (List.mem_filter.mp hp).2
  simp only [decide_eq_true_eq] at h1
  have h2 := h q hq
  exact Nat.ne_of_gt (Nat.lt_of_lt_of_le h2 h1)
theorem news_keep {D0 : Addr} {h₀ h : Heap} {L : Addr} {news l : Led} (N : News h₀ L h l) (k : ∀ p ∈ news, p ∈ l) : News h₀ L h (news ++ keepFrom D0 l) := fun p hp => N p ((List.mem_append.mp hp).elim (k p) fun h => (List.mem_filter.mp h).1)
def rangesOf (top : Int) : Nat → List Pr
  | 0 => [(6, 6)]
  | 1 => [(top, top), (6, 7)]
  | 2 => [(23, 25), (1, 2)]
  | 3 => [(30, 30), (21, 22), (0, 5)]
  | 4 => [(top - 2, top), (4, 8)]
  | _ => [(top - 1, top - 1), (22, 22), (8, 8), (4, 4)]
set_option maxRecDepth 100000 in
set_option maxHeartbeats 1600000 in
theorem ranges_does {w : World} {mean : ExcName → Option Value} {mg mb : Str → Option Value} {which top : Int} (h0 : 0 ≤ which) (h6 : which < 6) :
    Does w mean mg mb 255 6 (fun news vs => ∃ t u, vs = [.int which t, .int top u]) (fun news r => PairsAt (rangesOf top which.toNat) news r) := by
  intro dp un gd cn cs a ccd cl outer A₀ base h₀ L m news s vs Q E B F X N T hk hR hd hu hret
  obtain ⟨t, u, rfl⟩ := hR
  refine wpAny_call ?_
  k_dflt (refine' code_def (binds := [(Str.ofString "which", .int which t), (Str.ofString "top", .int top u)]) ?k1 ?k2 ?k3 ?k4 ?k5 ?kA ?kF ?kK ?k6 ?k7 ?k8 ?k9 ?kB ?_ ?c2 ?c3 ?c4 ?c5; walk_at "mine enter")
  intro g1 L1 h1 FG1 F1 N1 B1 X1 T1
  dsimp only
  k_fold
  repeat ((fail_if_success (with_reducible show wpAny _ _ (eval (Expr.Tuple _ _ _) _) _ _ _)); walk1)
  refine tupCC F1 N1 (fun D0 h' tk' t1 t2 F' N' l0 => ?_)
  dsimp only
  repeat (first | ((with_reducible show wpAny _ _ (eval (Expr.Tuple _ _ _) _) _ _ _); (refine tupCC (by assumption) (by assumption) (fun D h' tk' t1 t2 F' N' l' => ?_)); (have : (@LT.lt Nat _ D0 D) := l' (D0, _) (by repeat (first | exact List.Mem.head _ | refine List.Mem.tail _ ?_))); clear l'; dsimp only) | ((fail_if_success (with_reducible show wpAny _ _ (subscriptTail _ _ _) _ _ _)); walk1))
  rename News _ _ _ _ => N2
  rename Fr _ _ _ _ => F2
  have hw : which = 0 ∨ which = 1 ∨ which = 2 ∨ which = 3 ∨ which = 4 ∨ which = 5 := by omega
  have hl := News.isList N2 (.head _)
  refine' tailOps (T := "list") hl.typeIs slot_list_getitem.lookup ?g ?hs
  case hs => with_unfolding_all rfl
  rcases hw with rfl | rfl | rfl | rfl | rfl | rfl
  all_goals (refine wpAny_getItem_list hl (by decide) (by decide) rfl (leaveK_ F2 N2 fun F3 N3 => hret _ (keepFrom D0 _) _ _ F3 (news_keep N3 (by intro p hp; repeat (first | exact hp | refine .tail _ ?_))) (off_keep l0) ?_))
  all_goals (refine ⟨_, _, 0, rfl, List.mem_append_right _ (mem_keep (by k_mem) (by omega)), ?_⟩)
  · exact .cons (prDat (p := (6, 6)) (List.mem_append_right _ (mem_keep (by k_mem) (by omega)))) .nil
  · exact .cons (prDat (p := (top, top)) (List.mem_append_right _ (mem_keep (by k_mem) (by omega)))) (.cons (prDat (p := (6, 7)) (List.mem_append_right _ (mem_keep (by k_mem) (by omega)))) .nil)
  · exact .cons (prDat (p := (23, 25)) (List.mem_append_right _ (mem_keep (by k_mem) (by omega)))) (.cons (prDat (p := (1, 2)) (List.mem_append_right _ (mem_keep (by k_mem) (by omega)))) .nil)
  · exact .cons (prDat (p := (30, 30)) (List.mem_append_right _ (mem_keep (by k_mem) (by omega)))) (.cons (prDat (p := (21, 22)) (List.mem_append_right _ (mem_keep (by k_mem) (by omega)))) (.cons (prDat (p := (0, 5)) (List.mem_append_right _ (mem_keep (by k_mem) (by omega)))) .nil))
  · exact .cons (prDat (p := (top - 2, top)) (List.mem_append_right _ (mem_keep (by k_mem) (by omega)))) (.cons (prDat (p := (4, 8)) (List.mem_append_right _ (mem_keep (by k_mem) (by omega)))) .nil)
  · exact .cons (prDat (p := (top - 1, top - 1)) (List.mem_append_right _ (mem_keep (by k_mem) (by omega)))) (.cons (prDat (p := (22, 22)) (List.mem_append_right _ (mem_keep (by k_mem) (by omega)))) (.cons (prDat (p := (8, 8)) (List.mem_append_right _ (mem_keep (by k_mem) (by omega)))) (.cons (prDat (p := (4, 4)) (List.mem_append_right _ (mem_keep (by k_mem) (by omega)))) .nil)))
end
section
local macro_rules | `(tactic| omega) => `(tactic| lia)
section
theorem fillK2 : PySem.Challenge.rw_rg0248_01 = PySem.Challenge.rw_rg0248_01 ∧ hd.heap_39 = hd.heap_39 := by k_fill; exact ⟨rfl, rfl⟩
set_option maxRecDepth 100000 in
set_option maxHeartbeats 800000 in
theorem acked_does {w : World} {mean : ExcName → Option Value} {mg mb : Str → Option Value} {rs : List Pr} {ns : List Int} (hlen : rs.length ≤ 1000) (hns : ns.length ≤ 1000) :
    Does w mean mg mb 63 6 (fun news vs => ∃ v u, vs = [u, v] ∧ IntsAt ns news u ∧ PairsAt rs news v) (fun news r => ∃ ms, IntsAt ms news r ∧ ms.Perm (ns.filter (hasN rs)) ∧ ms.Pairwise (· ≤ ·)) := by
  intro dp un gd cn cs a ccd cl outer A₀ base h₀ L m news s vs Q E B F X N T hk hR hd hu hret
  obtain ⟨_, _, rfl, ⟨b, ws, mm, rfl, hmb, hI⟩, a, vs, nn, rfl, hm, hA⟩ := hR
  refine wpAny_call ?_
  k_dflt (refine' code_defC (binds := [(Str.ofString "sent_numbers", .ref b), (Str.ofString "ranges", .ref a)]) ?k1 ?k2 ?k3 ?k4 ?k5 ?kA ?kF ?kK ?k6 ?k7 ?k8 ?k9 ?kB ?kD ?_ ?c2 ?c3 ?c4; walk_at "mine enterC")
  intro g1 L1 h1 tk1 cells1 FG1 F1 N1 Y1 B1 X1 T1 l1
  k_cells Y1
  rename_i oN dN
  simp only [List.cons_append, List.nil_append] at N1
  replace dN : oN.data = .cell (some (.ref a)) := dN
  replace F1 : Fr g1 L1 h1 (fun y => if y = Str.ofString "sent_numbers" then some (.ref b) else none) := F1
  dsimp only
  iterate 6 walk1
  k_dflt (refine LCt.ListComp_T (F₀ := F1) (by with_unfolding_all rfl) (by decide) (by rfl) (by decide) (by rfl) ?_)
  walk1
  have hl : ws.length = ns.length := hI.length
  have hsz : ws.toArray.size ≤ sizeLine := by
    rw [List.size_toArray, sizeLine_eq]; omega
  refine LCt.CompSrcT.ledger (ax := b) (its := ws.toArray) (k := mm) rfl F1 N1 (.tail _ hmb) hsz fun g' => ?_
  refine compT_inv (n := ws.toArray.size) (fun i ys nw => nw = (L1 + 1, oN) :: news ∧ IntsAre ys ((ns.take i).filter (hasN rs))) (fun ys nw hI => ?fin) ?turn _ 0 [] _ (by omega) ⟨rfl, .nil⟩
  case turn =>
    rintro i ys nw v hi ⟨rfl, hY⟩ hv I oI C oC D m2 h2 tk2 E2 hC hx F2 N2 off2 ne2
    have hi' : i < ns.length := by rw [← hl]; simpa using hi
    obtain ⟨tv, hx2⟩ := hI.get i ns[i] (List.getElem?_eq_getElem hi')
    obtain rfl : v = .int ns[i] tv := by
      have hv' : ws[i]? = some v := by simpa using hv
      rw [hx2] at hv'; exact (Option.some.inj hv').symm
    iterate 11 walk1
    k_dflt refine' Does.use (has_does hlen) ?uB ?uF ?uX ?uN ?uT ?uk ?up ?u1 ?u2 ?_
    walk_at "mine use"
    case up => exact ⟨_, _, rfl, a, vs, nn, rfl, .tail _ (.tail _ (.tail _ (.tail _ hm))), hA.mono fun p hp => .tail _ (.tail _ (.tail _ (.tail _ hp)))⟩
    rintro r tl h3 tk3 F3 N3 off3 rfl
    have N3' := news_sub N3 (news' := (I, oI) :: (C, oC) :: (D, LCg.lst ys) :: (L1 + 1, oN) :: news) fun p hp => List.mem_append_left _ hp
    iterate 2 walk1
    · rename_i hb
      walk1
      refine endKeep F3 N3' off2 (.inr ⟨_, .tail _ hmb, rfl, _, rfl⟩) ⟨rfl, ?_⟩
      rw [take_step hi', List.filter_append]
      exact hY.append (by simpa [hb] using (IntsAre.cons (ns[i]) tv IntsAre.nil))
    · rename_i hb
      refine endKeep F3 N3' off2 (.inr ⟨_, .tail _ hmb, rfl, _, rfl⟩) ⟨rfl, ?_⟩
      rw [take_step hi', List.filter_append]
      simpa [hb] using hY
  case fin =>
    obtain ⟨rfl, hY⟩ := hI
    rw [show ns.take ws.toArray.size = ns by rw [List.size_toArray, hl, List.take_length]] at hY
    intro D h2 tk2 F2 N2 off2
    dsimp only
    iterate 1 walk1
    have hsz2 : ys.length ≤ sizeLine := by
      rw [hY.length, sizeLine_eq]
      have := List.length_filter_le (hasN rs) ns
      omega
    refine Srt.sortedN_S F2 N2 (News.isList N2 (.head _)) hY hsz2 fun h3 vs3 ns3 e3 F3 N3 hI3 hp3 hs3 => ?_
    refine leaveK_ F3 N3 fun F4 N4 => ?_
    exact hret _ [(h2.objs.size + 1, seqObj "list" vs3.toArray e3)] h3 _ F4 (news_one N4 (fun p hp => .tail _ (.tail _ (.tail _ hp))) (.head _)) (off_new N2 (fun p hp => .tail _ (.tail _ hp)) (Nat.le_succ _))
      ⟨ns3, ⟨_, vs3, e3, rfl, mem_one, hI3⟩, hp3, hs3⟩
end
section
theorem fillK7 : PySem.Challenge.rw_rg0248_01 = PySem.Challenge.rw_rg0248_01 ∧ hd.heap_39 = hd.heap_39 := by k_fill; exact ⟨rfl, rfl⟩
set_option maxRecDepth 100000 in
set_option maxHeartbeats 1600000 in
theorem take_does {w : World} {mean : ExcName → Option Value} {mg mb : Str → Option Value}
    {dp un : Nat} {gd : Option (List Code)} {cn : Str} {cs : Scope} {a : Addr} {ccd : Value} {cl : List (Str × Addr)} {outer : List Env} {A₀ : Around} {base h₀ : Heap} {L : Addr} {m : Str → Option Value} {s : Shared}
    {Q E : Value → Shared → Prop} {bx l : Addr} {rest : Led} {ls : List Value} {ns : List Int} {n nl : Nat} {k many : Int} {t u : Tok}
    (B : Below A₀ base outer h₀) (F : Fr h₀ L s.heap m) (X : (hd.heap_39 w.params).In h₀) (N : News h₀ L s.heap ((bx, W.listOf #[.ref l, .int k t] n) :: rest)) (T : Top hd.view_39 (looseW hd.view_39 []) mean mg mb h₀) (hk : cs.kind = .function)
    (hd : dp + 6 < recursionLimit) (hu : un + 8 * 6 < cLine)
    (hl : (l, W.listOf ls.toArray nl) ∈ rest) (hI : IntsAre ls ns) (hns : ns.length ≤ 8) (hoff : OwnOff rest [bx]) (hk0 : 0 ≤ k) (hk1 : k ≤ 100) (hm0 : 0 < many) (hm1 : many ≤ 6)
    (hret : ∀ r u t' h' tk', Fr h₀ L h' m → News h₀ L h' ((bx, W.listOf #[.ref l, .int (k + 1) t'] n) :: rest) → 0 ≤ r → r < many → Q (.int r u) { s with heap := h', toks := tk' }) :
    wpAny (model PySem.Challenge.rw_rg0248_01.row.prog w) (ktrTop dp un gd cn cs L a ccd cl outer) (call (.ref 241) [.ref bx, .int many u]) Q E s := by
  refine wpAny_call ?_
  k_dflt (refine' code_def (binds := [(Str.ofString "box", .ref bx), (Str.ofString "many", .int many u)]) ?k1 ?k2 ?k3 ?k4 ?k5 ?kA ?kF ?kK ?k6 ?k7 ?k8 ?k9 ?kB ?_ ?c2 ?c3 ?c4 ?c5; walk_at "mine enter")
  intro g1 L1 h1 FG1 F1 N1 B1 X1 T1
  dsimp only
  k_fold
  have hl2 : ∀ x, (l, W.listOf ls.toArray nl) ∈ x :: rest := fun x => .tail _ hl
  iterate 13 walk1
  iterate 14 (first | walk1 | (dsimp only; walk1))
  rename News _ _ _ _ => N2
  have hIL := News.isList N2 (.tail _ hl)
  have hlen : ls.length = ns.length := hI.length
  walk1
  refine len_list hIL (by rw [List.size_toArray]; omega) ?_
  rw [List.size_toArray, hlen]
  iterate 4 walk1
  · rename_i hle
    have hkn : k.toNat < ns.length := by omega
    obtain ⟨tx, hx⟩ := hI.get k.toNat ns[k.toNat] (List.getElem?_eq_getElem hkn)
    iterate 19 walk1
    refine' tailOps (T := "list") hIL.typeIs slot_list_getitem.lookup ?g ?hs
    case hs => with_unfolding_all rfl
    refine wpAny_getItem_list (x := .int ns[k.toNat] tx) hIL (by omega) (by omega) (by rw [show (k + 1 - 1).toNat = k.toNat by omega]; simpa using hx) ?_
    generalize ns[k.toNat] = x
    iterate 5 walk1
    rename_i F3 N3 _ _
    exact hret _ _ _ _ _ F3 N3 (Int.fmod_nonneg_of_pos _ hm0) (Int.fmod_lt_of_pos _ hm0)
  · rename_i hle
    iterate 24 walk1
    rename_i F3 N3 _ _
    exact hret _ _ _ _ _ F3 N3 (Int.fmod_nonneg_of_pos _ hm0) (Int.fmod_lt_of_pos _ hm0)
end
end
section
theorem fillK3 : PySem.Challenge.rw_rg0248_01 = PySem.Challenge.rw_rg0248_01 ∧ hd.heap_39 = hd.heap_39 := by k_fill; exact ⟨rfl, rfl⟩
def pruneR (rs : List Pr) (low : Int) : List Pr := (rs.filter fun p => decide (low ≤ p.2)).map fun p => (max p.1 low, p.2)
set_option maxRecDepth 100000 in
set_option maxHeartbeats 800000 in
theorem prune_does {w : World} {mean : ExcName → Option Value} {mg mb : Str → Option Value} {rs : List Pr} {low : Int} (hlen : rs.length ≤ 1000) :
    Does w mean mg mb 68 6 (fun news vs => ∃ v t, vs = [v, .int low t] ∧ PairsAt rs news v) (fun news r => PairsAt (pruneR rs low) news r) := by
  intro dp un gd cn cs a ccd cl outer A₀ base h₀ L m news s vs Q E B F X N T hk hR hd hu hret
  obtain ⟨_, t, rfl, a, vs, nn, rfl, hm, hA⟩ := hR
  refine wpAny_call ?_
  k_dflt (refine' code_defC (binds := [(Str.ofString "ranges", .ref a), (Str.ofString "low", .int low t)]) ?k1 ?k2 ?k3 ?k4 ?k5 ?kA ?kF ?kK ?k6 ?k7 ?k8 ?k9 ?kB ?kD ?_ ?c2 ?c3 ?c4; walk_at "mine enterC")
  intro g1 L1 h1 tk1 cells1 FG1 F1 N1 Y1 B1 X1 T1 l1
  k_cells Y1
  rename_i oN dN
  simp only [List.cons_append, List.nil_append] at N1
  replace dN : oN.data = .cell (some (.int low t)) := dN
  replace F1 : Fr g1 L1 h1 (fun y => if y = Str.ofString "ranges" then some (.ref a) else none) := F1
  dsimp only
  iterate 2 walk1
  k_dflt (refine LCt.ListComp_T (F₀ := F1) (by with_unfolding_all rfl) (by decide) (by rfl) (by decide) (by rfl) ?_)
  walk1
  have hl : vs.length = rs.length := by have := hA.length; rwa [List.length_map] at this
  have hsz : vs.toArray.size ≤ sizeLine := by
    rw [List.size_toArray, sizeLine_eq]; omega
  refine LCt.CompSrcT.ledger (ax := a) (its := vs.toArray) (k := nn) rfl F1 N1 (.tail _ hm) hsz fun g' => ?_
  refine compT_inv (n := vs.toArray.size) (fun i ys nw => ∃ tl, nw = tl ++ (L1 + 1, oN) :: news ∧ OwnOff tl (((L1 + 1, oN) :: news).map (·.1)) ∧ DatAll tl ys ((pruneR (rs.take i) low).map prD)) (fun ys nw hI => ?fin) ?turn _ 0 [] _ (by omega) ⟨[], rfl, off_nil, .nil⟩
  case turn =>
    rintro i ys nw v hi ⟨tl, rfl, hoff, hY⟩ hv I oI C oC D m2 h2 tk2 E2 hC hx F2 N2 off2 ne2
    obtain ⟨hi', hd'⟩ := prs_get hA (i := i) (v := v) (by simpa using hv)
    obtain ⟨ta, tn, t1, t2, rfl, htm⟩ := datPr hd'
    have htm2 : (ta, ({ cls := .type "tuple", data := .seq #[.int rs[i].1 t1, .int rs[i].2 t2] tn } : Obj)) ∈ (I, oI) :: (C, oC) :: (D, LCg.lst ys) :: (tl ++ (L1 + 1, oN) :: news) := .tail _ (.tail _ (.tail _ (List.mem_append_right _ (.tail _ htm))))
    have hlow2 : (L1 + 1, oN) ∈ (I, oI) :: (C, oC) :: (D, LCg.lst ys) :: (tl ++ (L1 + 1, oN) :: news) := .tail _ (.tail _ (.tail _ (List.mem_append_right _ (.head _))))
    iterate 9 walk1
    · rename_i hle
      iterate 20 walk1
      rename_i h3 tk3 F3 N3
      rw [show (if low > rs[i].1 then low else rs[i].1) = max rs[i].1 low by split <;> omega]
      refine kup_newTuple F3 N3 (fun D4 h4 F4 N4 l4 => ?_) (by rw [sizeLine_eq]; simp)
      have off4 : LCg.Off3 I C D ((D4, ({ cls := .type "tuple", data := .seq (#[.int (max rs[i].1 low) (if low > rs[i].1 then t else t1), .int rs[i].2 t2] : Array Value) } : Obj)) :: (tl ++ (L1 + 1, oN) :: news)) := by
        have a1 := l4 (I, oI) (by simp)
        have a2 := l4 (C, oC) (by simp)
        have a3 := l4 (D, LCg.lst ys) (by simp)
        exact ⟨⟨Nat.ne_of_gt a1, Nat.ne_of_gt a2, Nat.ne_of_gt a3⟩, off2⟩
      have N5 := news_sub N4 (news' := (I, oI) :: (C, oC) :: (D, LCg.lst ys) :: (D4, ({ cls := .type "tuple", data := .seq (#[.int (max rs[i].1 low) (if low > rs[i].1 then t else t1), .int rs[i].2 t2] : Array Value) } : Obj)) :: (tl ++ (L1 + 1, oN) :: news)) (by
        intro p hp
        rcases List.mem_cons.mp hp with rfl | hp
        · exact .tail _ (.head _)
        rcases List.mem_cons.mp hp with rfl | hp
        · exact .tail _ (.tail _ (.head _))
        rcases List.mem_cons.mp hp with rfl | hp
        · exact .tail _ (.tail _ (.tail _ (.head _)))
        rcases List.mem_cons.mp hp with rfl | hp
        · exact .head _
        · exact .tail _ (.tail _ (.tail _ (.tail _ hp))))
      refine endKeep F4 N5 off4 (.inr ⟨_, .tail _ (List.mem_append_right _ (.tail _ hm)), rfl, _, rfl⟩) ⟨(D4, _) :: tl, rfl, ?_, ?_⟩
      · intro p hp b hb
        rcases List.mem_cons.mp hp with rfl | hp
        · obtain ⟨q, hq, rfl⟩ := List.mem_map.mp hb
          exact Nat.ne_of_gt (l4 q (.tail _ (.tail _ (.tail _ (List.mem_append_right _ hq)))))
        · exact hoff p hp b hb
      · have e : pruneR (rs.take (i + 1)) low = pruneR (rs.take i) low ++ [(max rs[i].1 low, rs[i].2)] := by
          unfold pruneR
          rw [take_step hi', List.filter_append]
          simp [hle]
        rw [e, List.map_append]
        exact (hY.mono fun p hp => .tail _ hp).append (.one (prDat (p := (max rs[i].1 low, rs[i].2)) (.head _)))
    · rename_i hle
      refine endKeep F2 N2 off2 (.inr ⟨_, List.mem_append_right _ (.tail _ hm), rfl, _, rfl⟩) ⟨tl, rfl, hoff, ?_⟩
      have e : pruneR (rs.take (i + 1)) low = pruneR (rs.take i) low := by
        unfold pruneR
        rw [take_step hi', List.filter_append]
        simp [hle]
      rw [e]; exact hY
  case fin =>
    obtain ⟨tl, rfl, hoff, hY⟩ := hI
    rw [show rs.take vs.toArray.size = rs by rw [List.size_toArray, hl, List.take_length]] at hY
    intro D h2 tk2 F2 N2 off2
    dsimp only
    refine leaveK_ F2 N2 fun F4 N4 => ?_
    have off1 : ∀ {l : Led}, LCg.Off1 D l → ∀ p ∈ l, p.1 ≠ D := by
      intro l
      induction l with
      | nil => intro _ p hp; cases hp
      | cons q r ih =>
        intro h p hp
        rcases List.mem_cons.mp hp with rfl | hp
        · exact h.1
        · exact ih h.2 p hp
    refine hret _ ((D, LCg.lst ys) :: tl) h2 _ F4 (news_sub N4 ?_) ?_ ⟨D, ys, _, rfl, List.mem_append_right _ (.head _), hY.mono fun p hp => List.mem_append_right _ (.tail _ hp)⟩
    · intro p hp
      rcases List.mem_append.mp hp with hp | hp
      · exact .tail _ (List.mem_append_right _ (.tail _ hp))
      · rcases List.mem_cons.mp hp with rfl | hp
        · exact .head _
        · exact .tail _ (List.mem_append_left _ hp)
    · intro p hp b hb
      rcases List.mem_cons.mp hp with rfl | hp
      · obtain ⟨q, hq, rfl⟩ := List.mem_map.mp hb
        exact (off1 off2 q (List.mem_append_right _ (.tail _ hq))).symm
      · exact hoff p hp b (List.mem_cons_of_mem _ hb)
end
section
local macro_rules | `(tactic| omega) => `(tactic| lia)
section
theorem fillK4 : PySem.Challenge.rw_rg0248_01 = PySem.Challenge.rw_rg0248_01 ∧ hd.heap_39 = hd.heap_39 := by k_fill; exact ⟨rfl, rfl⟩
structure AddSt where
  found : List Pr
  isIn : Bool
  low : Int
  high : Int
def addStep (c : AddSt) (one : Pr) : AddSt :=
  if one.1 > c.high + 1 then { c with found := c.found ++ [one] }
  else if one.2 < c.low - 1 then { c with found := (if c.isIn then c.found else c.found ++ [(c.low, c.high)]) ++ [one], isIn := true }
  else { c with low := min c.low one.1, high := max c.high one.2 }
def addFold (rs : List Pr) (low high : Int) : AddSt := rs.foldl addStep ⟨[], false, low, high⟩
def addR (rs : List Pr) (low high : Int) : List Pr := let c := addFold rs low high; if c.isIn then c.found else c.found ++ [(c.low, c.high)]
def addFrm (lf : Addr) (c : AddSt) (t1 t2 : Tok) (u : Str → Option Value) : Str → Option Value := fun y =>
  if y = Str.ofString "found" then some (.ref lf) else if y = Str.ofString "is_in" then some (.bool c.isIn) else if y = Str.ofString "low" then some (.int c.low t1) else if y = Str.ofString "high" then some (.int c.high t2) else u y
theorem addFrm_of {lf : Addr} {c : AddSt} {t1 t2 : Tok} {m : Str → Option Value} (h1 : m (Str.ofString "found") = some (.ref lf)) (h2 : m (Str.ofString "is_in") = some (.bool c.isIn)) (h3 : m (Str.ofString "low") = some (.int c.low t1)) (h4 : m (Str.ofString "high") = some (.int c.high t2)) :
    m = addFrm lf c t1 t2 m := by
  funext y
  unfold addFrm
  split
  · rename_i e; rw [e]; exact h1
  split
  · rename_i e; rw [e]; exact h2
  split
  · rename_i e; rw [e]; exact h3
  split
  · rename_i e; rw [e]; exact h4
  rfl
def AddJ (rs : List Pr) (low high : Int) (lf : Addr) (news : Led) (i : Nat) (m : Str → Option Value) (nx : Led) : Prop :=
  ∃ (c : AddSt) (vs : List Value) (nf : Nat) (t1 t2 : Tok) (u : Str → Option Value) (tl : Led), c = addFold (rs.take i) low high ∧ nx = (lf, W.listOf vs.toArray nf) :: (tl ++ news) ∧ OwnOff tl (lf :: news.map (·.1)) ∧ DatAll (tl ++ news) vs (c.found.map prD) ∧ m = addFrm lf c t1 t2 u
theorem addStep_len (c : AddSt) (p : Pr) : (addStep c p).found.length + (if (addStep c p).isIn then 0 else 1) ≤ c.found.length + (if c.isIn then 0 else 1) + 1 := by
  unfold addStep
  split
  · simp only [List.length_append, List.length_cons, List.length_nil]; cases c.isIn <;> simp
  · split
    · cases c.isIn <;> simp
    · simp
theorem addFold_len (rs : List Pr) : ∀ c : AddSt, (rs.foldl addStep c).found.length + (if (rs.foldl addStep c).isIn then 0 else 1) ≤ c.found.length + (if c.isIn then 0 else 1) + rs.length := by
  induction rs with
  | nil => intro c; simp only [List.foldl_nil, List.length_nil]; exact Nat.le_refl _
  | cons p r ih =>
    intro c
    have h1 := addStep_len c p
    have h2 := ih (addStep c p)
    rw [List.foldl_cons, List.length_cons]
    omega
set_option maxRecDepth 100000 in
set_option maxHeartbeats 800000 in
theorem add_does {w : World} {mean : ExcName → Option Value} {mg mb : Str → Option Value} {rs : List Pr} {low high : Int} (hlen : rs.length ≤ 1000) :
    Does w mean mg mb 53 6 (fun news vs => ∃ v t u, vs = [v, .int low t, .int high u] ∧ PairsAt rs news v) (fun news r => PairsAt (addR rs low high) news r) := by
  intro dp un gd cn cs a ccd cl outer A₀ base h₀ L m news s vs Q E B F X N T hk hR hd hu hret
  obtain ⟨_, t, u, rfl, a, vs, nn, rfl, hm, hA⟩ := hR
  refine wpAny_call ?_
  k_dflt (refine' code_def (binds := [(Str.ofString "ranges", .ref a), (Str.ofString "low", .int low t), (Str.ofString "high", .int high u)]) ?k1 ?k2 ?k3 ?k4 ?k5 ?kA ?kF ?kK ?k6 ?k7 ?k8 ?k9 ?kB ?_ ?c2 ?c3 ?c4 ?c5; walk_at "mine enter")
  intro g1 L1 h1 FG1 F1 N1 B1 X1 T1
  dsimp only
  k_fold
  iterate 22 walk1
  rename_i lf h2a l2a D2 h2b l2 h2c h2d h2 F2 N2
  have hl : vs.length = rs.length := by have := hA.length; rwa [List.length_map] at this
  with_unfolding_all refine' For_invVF F2 ?k1 ?k2 ?_
  case k1 => exact rfl
  case k2 => exact rfl
  walk1
  refine' kdl_iter (vs := vs) (nn := nn) (news := (lf, W.listOf [].toArray 0) :: news) (AddJ rs low high lf news) ?j1 ?j2 ?j3 ?j4 ?start ?turn ?done
  case j1 => rfl
  case j2 => exact .tail _ hm
  case j3 => exact F2
  case j4 => exact news_sub N2 fun p hp => .tail _ hp
  case start => exact ⟨⟨[], false, low, high⟩, [], 0, t, u, _, [], rfl, rfl, off_nil, .nil, addFrm_of rfl rfl rfl rfl⟩
  case turn =>
    rintro i v m1 nx1 h3 tk3 own hv hoff hml ⟨c, vs1, nf, t1, t2, u1, tl, hc, rfl, hoff2, hD, rfl⟩ F3 N3
    obtain ⟨hi', hd'⟩ := prs_get hA hv
    obtain ⟨ta, tn, t3, t4, rfl, htm⟩ := datPr hd'
    have hlc : vs1.length ≤ 1001 := by
      have h1 := hD.length
      rw [List.length_map] at h1
      have h2 := addFold_len (rs.take i) ⟨[], false, low, high⟩
      rw [show (rs.take i).foldl addStep ⟨[], false, low, high⟩ = c from hc.symm] at h2
      simp only [List.length_nil, List.length_take] at h2
      have : (if false = true then 0 else 1) = 1 := rfl
      omega
    have hoffA : OwnOff ((tl ++ news) ++ own) [lf] := by
      intro p hp b hb
      rw [List.mem_singleton.mp hb]
      rcases List.mem_append.mp hp with hp | hp
      · rcases List.mem_append.mp hp with hp | hp
        · exact hoff2 p hp lf (.head _)
        · exact Nat.ne_of_lt (l2a p hp)
      · exact hoff p hp lf (.head _)
    have htm2 : (ta, ({ cls := .type "tuple", data := .seq #[.int rs[i].1 t3, .int rs[i].2 t4] tn } : Obj)) ∈ (lf, W.listOf vs1.toArray nf) :: ((tl ++ news) ++ own) := .tail _ (List.mem_append_left _ (List.mem_append_right _ htm))
    rw [List.cons_append] at N3
    unfold addFrm at F3
    have key : ∀ (c' : AddSt) (vs' : List Value) (nf' : Nat) (t1' t2' : Tok) (add : Led) (m' : Str → Option Value) (h' : Heap) (tk' : Nat) (news' : Led), c' = addStep c rs[i] → Fr g1 L1 h' m' → News g1 L1 h' news' →
        (∀ p ∈ (lf, W.listOf vs'.toArray nf') :: (add ++ (tl ++ news ++ own)), p ∈ news') → (∀ p ∈ add, lf < p.1 ∧ AllLt p.1 (tl ++ news ++ own)) → DatAll (add ++ (tl ++ news)) vs' (c'.found.map prD) →
        m' (Str.ofString "found") = some (.ref lf) → m' (Str.ofString "is_in") = some (.bool c'.isIn) → m' (Str.ofString "low") = some (.int c'.low t1') → m' (Str.ofString "high") = some (.int c'.high t2') →
        InvEndG g1 L1 (fun m' nx => (a, W.listOf vs.toArray nn) ∈ nx ∧ AddJ rs low high lf news (i + 1) m' nx) own { s with heap := h3, toks := tk3 } { s with heap := h', toks := tk' } := by
      intro c' vs' nf' t1' t2' add m' h' tk' news' e F' N' hsub hadd hD' e1 e2 e3 e4
      refine ⟨h', tk', m', news', (lf, W.listOf vs'.toArray nf') :: ((add ++ tl) ++ news), rfl, F', N', ?_, ?_, ?_, ?_, c', vs', nf', t1', t2', m', add ++ tl, ?_, rfl, ?_, ?_, addFrm_of e1 e2 e3 e4⟩
      · intro p hp
        refine hsub p ?_
        rcases List.mem_cons.mp hp with rfl | hp
        · exact .head _
        · refine .tail _ ?_
          rw [List.append_assoc] at hp
          rcases List.mem_append.mp hp with hp | hp
          · exact List.mem_append_left _ hp
          · exact List.mem_append_right _ (List.mem_append_left _ hp)
      · exact fun p hp => hsub p (.tail _ (List.mem_append_right _ (List.mem_append_right _ hp)))
      · intro p hp b hb
        obtain ⟨q, hq, rfl⟩ := List.mem_map.mp hb
        rcases List.mem_cons.mp hq with rfl | hq
        · exact hoff p hp _ (.head _)
        · rw [List.append_assoc] at hq
          rcases List.mem_append.mp hq with hq | hq
          · exact Nat.ne_of_lt (ktn_ltOf (hadd q hq).2 p (List.mem_append_right _ hp))
          · exact hoff p hp _ (.tail _ (List.mem_map_of_mem hq))
      · exact .tail _ (List.mem_append_right _ hm)
      · rw [e, hc, take_step hi']; unfold addFold; rw [List.foldl_append]; rfl
      · intro p hp b hb
        rcases List.mem_append.mp hp with hp | hp
        · rcases List.mem_cons.mp hb with e | hb
          · rw [e]; exact Nat.ne_of_gt (hadd p hp).1
          · obtain ⟨q, hq, rfl⟩ := List.mem_map.mp hb
            exact Nat.ne_of_gt (ktn_ltOf (hadd p hp).2 q (List.mem_append_left _ (List.mem_append_right _ hq)))
        · exact hoff2 p hp b hb
      · rw [List.append_assoc]; exact hD'
    have hone : DatIn (tl ++ news) (.ref ta) (prD rs[i]) := prDat (List.mem_append_right _ htm)
    repeat' (first | walk1 | (dsimp only; walk1))
    · rename_i hgt _ h4 F4 N4
      rw [show vs1.toArray.push (Value.ref ta) = (vs1 ++ [Value.ref ta]).toArray from List.push_toArray ..] at N4
      refine key (addStep c rs[i]) _ _ t1 t2 [] _ h4 _ _ rfl F4 N4 (fun p hp => hp) (fun _ h => nomatch h) ?_ rfl ?_ ?_ ?_
      all_goals rw [show addStep c rs[i] = { c with found := c.found ++ [rs[i]] } by unfold addStep; rw [if_pos hgt]]
      · rw [List.map_append]; exact hD.append (.one hone)
      · rfl
      · rfl
      · rfl
    · rename_i hgt _ hlt _ hin h4 F4 N4
      rw [show vs1.toArray.push (Value.ref ta) = (vs1 ++ [Value.ref ta]).toArray from List.push_toArray ..] at N4
      refine key (addStep c rs[i]) _ _ t1 t2 [] _ h4 _ _ rfl F4 N4 (fun p hp => hp) (fun _ h => nomatch h) ?_ rfl ?_ ?_ ?_
      all_goals rw [show addStep c rs[i] = { c with found := c.found ++ [rs[i]], isIn := true } by unfold addStep; rw [if_neg hgt, if_pos hlt, if_pos hin]]
      · rw [List.map_append]; exact hD.append (.one hone)
      · rw [← hin]; rfl
      · rfl
      · rfl
    · rename_i hgt _ hlt _ hin D4 _ l4 _ _ _ _ _ h4 F4 N4
      rw [show vs1.toArray.push (Value.ref D4) = (vs1 ++ [Value.ref D4]).toArray from List.push_toArray .., show (vs1 ++ [Value.ref D4]).toArray.push (Value.ref ta) = ((vs1 ++ [Value.ref D4]) ++ [Value.ref ta]).toArray from List.push_toArray ..] at N4
      refine key (addStep c rs[i]) ((vs1 ++ [Value.ref D4]) ++ [Value.ref ta]) (nf + 1 + 1) t1 t2 [(D4, ({ cls := .type "tuple", data := .seq #[.int c.low t1, .int c.high t2] } : Obj))] _ h4 _ _ rfl F4 N4 (fun p hp => ?_) (fun p hp => ?_) ?_ rfl ?_ ?_ ?_
      · rcases List.mem_cons.mp hp with rfl | hp
        · exact .tail _ (.head _)
        rcases List.mem_append.mp hp with hp | hp
        · rw [List.mem_singleton.mp hp]; exact .head _
        · exact .tail _ (.tail _ hp)
      · rw [List.mem_singleton.mp hp]; exact l4
      all_goals rw [show addStep c rs[i] = { c with found := (c.found ++ [(c.low, c.high)]) ++ [rs[i]], isIn := true } by unfold addStep; rw [if_neg hgt, if_pos hlt, if_neg (by rw [hin]; decide)]]
      · rw [List.map_append, List.map_append]
        exact ((hD.mono fun p hp => .tail _ hp).append (.one (prDat (p := (c.low, c.high)) (.head _)))).append (.one (hone.mono fun p hp => .tail _ hp))
      · rfl
      · rfl
      · rfl
    · rename_i hgt _ hlt _ _ _ _ _ D4 _ l4 _ _ _ _ h4 F4 N4
      refine key (addStep c rs[i]) vs1 nf (if rs[i].1 < c.low then t3 else t1) (if rs[i].2 > c.high then t4 else t2) [] _ h4 _ _ rfl F4 N4 (fun p hp => .tail _ hp) (fun _ h => nomatch h) ?_ rfl ?_ ?_ ?_
      all_goals rw [show addStep c rs[i] = { c with low := min c.low rs[i].1, high := max c.high rs[i].2 } by unfold addStep; rw [if_neg hgt, if_neg hlt]]
      · exact hD
      · rfl
      · show some (Value.int (if rs[i].1 < c.low then rs[i].1 else c.low) _) = _
        rw [show (if rs[i].1 < c.low then rs[i].1 else c.low) = min c.low rs[i].1 by split <;> omega]
      · show some (Value.int (if rs[i].2 > c.high then rs[i].2 else c.high) _) = _
        rw [show (if rs[i].2 > c.high then rs[i].2 else c.high) = max c.high rs[i].2 by split <;> omega]
  case done =>
    rintro m1 nx1 h3 tk3 ⟨c, vs1, nf, t1, t2, u1, tl, hc, rfl, hoff2, hD, rfl⟩ F3 N3
    rw [show rs.take vs.length = rs by rw [hl, List.take_length]] at hc
    have hoffA : OwnOff (tl ++ news) [lf] := by
      intro p hp b hb
      rw [List.mem_singleton.mp hb]
      rcases List.mem_append.mp hp with hp | hp
      · exact hoff2 p hp lf (.head _)
      · exact Nat.ne_of_lt (l2a p hp)
    unfold addFrm at F3
    repeat' (first | walk1 | (dsimp only; walk1))
    · rename_i hin F4 N4 T4 X4
      refine hret _ ((lf, W.listOf vs1.toArray nf) :: tl) _ _ F4 (news_sub N4 fun p hp => ?_) ?_ ⟨lf, vs1, nf, rfl, List.mem_append_right _ (.head _), ?_⟩
      · rcases List.mem_append.mp hp with hp | hp
        · exact .tail _ (List.mem_append_right _ hp)
        rcases List.mem_cons.mp hp with rfl | hp
        · exact .head _
        · exact .tail _ (List.mem_append_left _ hp)
      · intro p hp b hb
        rcases List.mem_cons.mp hp with rfl | hp
        · obtain ⟨q, hq, rfl⟩ := List.mem_map.mp hb
          exact Nat.ne_of_gt (l2a q hq)
        · exact hoff2 p hp b (.tail _ hb)
      · have e : addR rs low high = c.found := by unfold addR; rw [← hc]; exact if_pos hin
        rw [e]
        refine hD.mono fun p hp => ?_
        rcases List.mem_append.mp hp with hp | hp
        · exact List.mem_append_right _ (.tail _ hp)
        · exact List.mem_append_left _ hp
    · rename_i hin D4 _ _ lb h4 F4 N4 l4
      have hlc : vs1.length ≤ 1001 := by
        have h1 := hD.length
        rw [List.length_map] at h1
        have h2 := addFold_len rs ⟨[], false, low, high⟩
        rw [show rs.foldl addStep ⟨[], false, low, high⟩ = c from hc.symm] at h2
        simp only [List.length_nil] at h2
        have : (if false = true then 0 else 1) = 1 := rfl
        omega
      refine add_lists (vs := vs1) (ws := [Value.ref D4]) F4 N4 (News.isList N4 (.tail _ (.tail _ (.head _)))) (News.isList N4 (.head _)) (fun h5 F5 N5 => ?_) (by rw [sizeLine_eq]; simp only [List.length_cons, List.length_nil]; omega)
      refine leaveK_ F5 N5 fun F6 N6 => ?_
      have k4 : ∀ q ∈ news, q.1 < D4 := by
        intro q hq
        have := (‹(lf < D4 ∧ AllLt D4 (tl ++ news))›).2
        exact ktn_ltOf this q (List.mem_append_right _ hq)
      refine hret _ ((h4.objs.size, W.listOf (vs1 ++ [Value.ref D4]).toArray 0) :: (D4, ({ cls := .type "tuple", data := .seq #[.int c.low t1, .int c.high t2] } : Obj)) :: tl) _ _ F6 (news_sub N6 fun p hp => ?_) ?_ ⟨h4.objs.size, vs1 ++ [Value.ref D4], 0, rfl, List.mem_append_right _ (.head _), ?_⟩
      · rcases List.mem_append.mp hp with hp | hp
        · exact .tail _ (.tail _ (.tail _ (.tail _ (List.mem_append_right _ hp))))
        rcases List.mem_cons.mp hp with rfl | hp
        · exact .head _
        rcases List.mem_cons.mp hp with rfl | hp
        · exact .tail _ (.tail _ (.head _))
        · exact .tail _ (.tail _ (.tail _ (.tail _ (List.mem_append_left _ hp))))
      · intro p hp b hb
        obtain ⟨q, hq, rfl⟩ := List.mem_map.mp hb
        rcases List.mem_cons.mp hp with rfl | hp
        · exact Nat.ne_of_gt (Heap.lt_size (N4 q (.tail _ (.tail _ (.tail _ (List.mem_append_right _ hq))))).1)
        rcases List.mem_cons.mp hp with rfl | hp
        · exact Nat.ne_of_gt (k4 q hq)
        · exact hoff2 p hp _ (.tail _ hb)
      · have e : addR rs low high = c.found ++ [(c.low, c.high)] := by unfold addR; rw [← hc]; exact if_neg (by rw [hin]; decide)
        rw [e, List.map_append]
        refine (hD.mono fun p hp => ?_).append (.one (prDat (p := (c.low, c.high)) (List.mem_append_right _ (.tail _ (.head _)))))
        rcases List.mem_append.mp hp with hp | hp
        · exact List.mem_append_right _ (.tail _ (.tail _ hp))
        · exact List.mem_append_left _ hp
end
section
theorem fillK5 : PySem.Challenge.rw_rg0248_01 = PySem.Challenge.rw_rg0248_01 ∧ hd.heap_39 = hd.heap_39 := by k_fill; exact ⟨rfl, rfl⟩
def joinStep (fd : List Pr) (one : Int) : List Pr := match fd.getLast? with
  | some p => if p.1 = one + 1 then fd.dropLast ++ [(one, p.2)] else fd ++ [(one, one)]
  | none => [(one, one)]
theorem joinStep_nil (one : Int) : joinStep [] one = [(one, one)] := rfl
theorem joinStep_snoc (fd : List Pr) (p : Pr) (one : Int) : joinStep (fd ++ [p]) one = if p.1 = one + 1 then fd ++ [(one, p.2)] else (fd ++ [p]) ++ [(one, one)] := by
  unfold joinStep
  simp
theorem joinStep_len (fd : List Pr) (one : Int) : (joinStep fd one).length ≤ fd.length + 1 := by
  rcases List.eq_nil_or_concat fd with rfl | ⟨r, p, rfl⟩
  · rw [joinStep_nil]; simp
  · rw [List.concat_eq_append, joinStep_snoc]
    split <;> simp
theorem joinFold_len (ms : List Int) : ∀ fd : List Pr, (ms.foldl joinStep fd).length ≤ fd.length + ms.length := by
  induction ms with
  | nil => intro fd; simp
  | cons x r ih =>
    intro fd
    have h1 := ih (joinStep fd x)
    have h2 := joinStep_len fd x
    simp only [List.foldl_cons, List.length_cons]
    omega
def joinFrm (lf : Addr) (u : Str → Option Value) : Str → Option Value := fun y => if y = Str.ofString "found" then some (.ref lf) else u y
theorem joinFrm_of {lf : Addr} {m : Str → Option Value} (h1 : m (Str.ofString "found") = some (.ref lf)) : m = joinFrm lf m := by
  funext y
  unfold joinFrm
  split
  · rename_i e; rw [e]; exact h1
  rfl
def JoinJ (ms : List Int) (lf : Addr) (news : Led) (i : Nat) (m : Str → Option Value) (nx : Led) : Prop :=
  ∃ (vs : List Value) (nf : Nat) (u : Str → Option Value) (tl : Led), nx = (lf, W.listOf vs.toArray nf) :: (tl ++ news) ∧ OwnOff tl (lf :: news.map (·.1)) ∧ DatAll tl vs (((ms.take i).foldl joinStep []).map prD) ∧ m = joinFrm lf u
set_option maxRecDepth 100000 in
set_option maxHeartbeats 800000 in
theorem joined_does {w : World} {mean : ExcName → Option Value} {mg mb : Str → Option Value} {ns : List Int} (hlen : ns.length ≤ 1000) :
    Does w mean mg mb 248 16 (fun news vs => ∃ v, vs = [v] ∧ IntsAt ns news v) (fun news r => ∃ ms : List Int, PairsAt (ms.foldl joinStep []) news r ∧ ms.Perm ns ∧ ms.Pairwise (· ≥ ·)) := by
  intro dp un gd cn cs a ccd cl outer A₀ base h₀ L m news s vs Q E B F X N T hk hR hd hu hret
  obtain ⟨_, rfl, a, vs, nn, rfl, hm, hI⟩ := hR
  refine wpAny_call ?_
  k_dflt (refine' code_def (binds := [(Str.ofString "numbers", .ref a)]) ?k1 ?k2 ?k3 ?k4 ?k5 ?kA ?kF ?kK ?k6 ?k7 ?k8 ?k9 ?kB ?_ ?c2 ?c3 ?c4 ?c5; walk_at "mine enter")
  intro g1 L1 h1 FG1 F1 N1 B1 X1 T1
  dsimp only
  k_fold
  iterate 9 walk1
  rename_i lf h2a l2a h2 F2 N2
  with_unfolding_all refine' For_invVF F2 ?k1 ?k2 ?_
  case k1 => exact rfl
  case k2 => exact rfl
  iterate 7 walk1
  refine' Srt.sortedN_S F2 N2 ?sl hI ?sz ?_
  case sl => exact News.isList N2 (.tail _ hm)
  case sz => rw [hI.length, sizeLine_eq]; omega
  intro h3 vs3 ns3 e3 F3 N3 hI3 hp3 hs3
  have hlen3 : vs3.length ≤ 1000 := by rw [hI3.length, hp3.length_eq]; exact hlen
  dsimp only
  iterate 7 walk1
  k_dflt (refine' revInts ?F ?N ?l ?k ?i ?_ ?s ?z)
  case F => exact F3
  case N => exact N3
  case l => exact News.isList N3 (.head _)
  case k => exact IsPart.int _ _
  case i => exact hI3
  case s => with_unfolding_all rfl
  case z => rw [List.size_toArray, sizeLine_eq]; omega
  intro D ws h4 F4 N4 l4 hI4
  have hlD : lf < D := l4 (lf, W.listOf #[] 0) (.tail _ (.head _))
  have hwl : ws.length ≤ 1000 := by rw [hI4.length, List.length_reverse, hp3.length_eq]; exact hlen
  have hwr : ws.length = ns3.reverse.length := hI4.length
  refine' kdl_iter (vs := ws) (nn := 0) (news := (lf, W.listOf [].toArray 0) :: (D, W.listOf ws.toArray 0) :: news) (JoinJ ns3.reverse lf ((D, W.listOf ws.toArray 0) :: news)) ?j1 ?j2 ?j3 ?j4 ?start ?turn ?done
  case j1 => rfl
  case j2 => exact .tail _ (.head _)
  case j3 => exact F4
  case j4 =>
    refine news_sub N4 fun p hp => ?_
    rcases List.mem_cons.mp hp with rfl | hp
    · exact .tail _ (.tail _ (.head _))
    rcases List.mem_cons.mp hp with rfl | hp
    · exact .head _
    · exact .tail _ (.tail _ (.tail _ hp))
  case start => exact ⟨[], 0, _, [], rfl, off_nil, .nil, joinFrm_of rfl⟩
  case turn =>
    rintro i v m1 nx1 h5 tk5 own hv hoff hml ⟨vs1, nf, u1, tl, rfl, hoff2, hD, rfl⟩ F5 N5
    have hi' : i < ns3.reverse.length := by rw [← hwr]; exact (List.getElem?_eq_some_iff.mp hv).1
    obtain ⟨tv, hx2⟩ := hI4.get i _ (List.getElem?_eq_getElem hi')
    obtain rfl : v = .int ns3.reverse[i] tv := by rw [hx2] at hv; exact (Option.some.inj hv).symm
    generalize hone : ns3.reverse[i] = one at *
    have hstep : (ns3.reverse.take (i + 1)).foldl joinStep [] = joinStep ((ns3.reverse.take i).foldl joinStep []) one := by
      rw [take_step hi', List.foldl_append, hone]; rfl
    have hfl := joinFold_len (ns3.reverse.take i) []
    generalize hfd : (ns3.reverse.take i).foldl joinStep [] = fd at *
    rw [List.cons_append] at N5
    unfold joinFrm at F5
    have hoffA : OwnOff ((tl ++ (D, W.listOf ws.toArray 0) :: news) ++ own) [lf] := by
      intro p hp b hb
      rw [List.mem_singleton.mp hb]
      rcases List.mem_append.mp hp with hp | hp
      · rcases List.mem_append.mp hp with hp | hp
        · exact hoff2 p hp lf (.head _)
        · rcases List.mem_cons.mp hp with rfl | hp
          · exact Nat.ne_of_gt hlD
          · exact Nat.ne_of_lt (l2a p hp)
      · exact hoff p hp lf (.head _)
    have key : ∀ (vs' : List Value) (nf' : Nat) (add : Led) (m' : Str → Option Value) (h' : Heap) (tk' : Nat) (news' : Led), Fr g1 L1 h' m' → News g1 L1 h' news' →
        (∀ p ∈ (lf, W.listOf vs'.toArray nf') :: (add ++ ((tl ++ (D, W.listOf ws.toArray 0) :: news) ++ own)), p ∈ news') → (∀ p ∈ add, lf < p.1 ∧ AllLt p.1 ((tl ++ (D, W.listOf ws.toArray 0) :: news) ++ own)) → DatAll (add ++ tl) vs' ((joinStep fd one).map prD) →
        m' (Str.ofString "found") = some (.ref lf) →
        InvEndG g1 L1 (fun m' nx => (D, W.listOf ws.toArray 0) ∈ nx ∧ JoinJ ns3.reverse lf ((D, W.listOf ws.toArray 0) :: news) (i + 1) m' nx) own { s with heap := h5, toks := tk5 } { s with heap := h', toks := tk' } := by
      intro vs' nf' add m' h' tk' news' F' N' hsub hadd hD' e1
      refine ⟨h', tk', m', news', (lf, W.listOf vs'.toArray nf') :: ((add ++ tl) ++ ((D, W.listOf ws.toArray 0) :: news)), rfl, F', N', ?_, ?_, ?_, ?_, vs', nf', m', add ++ tl, rfl, ?_, ?_, joinFrm_of e1⟩
      · intro p hp
        refine hsub p ?_
        rcases List.mem_cons.mp hp with rfl | hp
        · exact .head _
        · refine .tail _ ?_
          rw [List.append_assoc] at hp
          rcases List.mem_append.mp hp with hp | hp
          · exact List.mem_append_left _ hp
          · exact List.mem_append_right _ (List.mem_append_left _ hp)
      · exact fun p hp => hsub p (.tail _ (List.mem_append_right _ (List.mem_append_right _ hp)))
      · intro p hp b hb
        obtain ⟨q, hq, rfl⟩ := List.mem_map.mp hb
        rcases List.mem_cons.mp hq with rfl | hq
        · exact hoff p hp _ (.head _)
        · rw [List.append_assoc] at hq
          rcases List.mem_append.mp hq with hq | hq
          · exact Nat.ne_of_lt (ktn_ltOf (hadd q hq).2 p (List.mem_append_right _ hp))
          · exact hoff p hp _ (.tail _ (List.mem_map_of_mem hq))
      · exact .tail _ (List.mem_append_right _ (.head _))
      · intro p hp b hb
        rcases List.mem_append.mp hp with hp | hp
        · rcases List.mem_cons.mp hb with e | hb
          · rw [e]; exact Nat.ne_of_gt (hadd p hp).1
          · obtain ⟨q, hq, rfl⟩ := List.mem_map.mp hb
            exact Nat.ne_of_gt (ktn_ltOf (hadd p hp).2 q (List.mem_append_left _ (List.mem_append_right _ hq)))
        · exact hoff2 p hp b hb
      · rw [hstep]; exact hD'
    iterate 8 walk1
    rename News _ _ _ _ => N6
    rename Fr _ _ _ _ => F6
    have hfdl : fd.length ≤ 1000 := by
      simp only [List.length_nil, List.length_take, List.length_reverse] at hfl
      have := hp3.length_eq
      omega
    refine' ne_pairs (rs := fd) (qs := []) (us := []) N6 ?p1 ?p2 ?p3 .nil ?pu ?_
    case p1 => exact .tail _ (.head _)
    case p2 => exact hD.mono fun p hp => .tail _ (.tail _ (List.mem_append_left _ (List.mem_append_left _ hp)))
    case p3 => exact .head _
    case pu => simp only [units_deeper]; omega
    rcases List.eq_nil_or_concat fd with rfl | ⟨r, p, rfl⟩
    · have hv1 : vs1 = [] := by
        have := hD.length
        simpa using this
      subst hv1
      simp only [decide_true, Bool.not_true]
      iterate 23 walk1
      rename_i D7 _ l7 h7 F7 N7
      refine key [.ref D7] (nf + 1) [(D7, ({ cls := .type "tuple", data := .seq #[.int one tv, .int one tv] } : Obj))] _ h7 _ _ F7 N7 (fun p hp => ?_) (fun p hp => ?_) ?_ rfl
      · rcases List.mem_cons.mp hp with rfl | hp
        · exact .tail _ (.tail _ (.head _))
        rcases List.mem_append.mp hp with hp | hp
        · rw [List.mem_singleton.mp hp]; exact .head _
        · exact .tail _ (.tail _ (.tail _ hp))
      · rw [List.mem_singleton.mp hp]; exact l7.2
      · rw [joinStep_nil]
        exact .one (prDat (p := (one, one)) (.head _))
    · rw [List.concat_eq_append] at *
      obtain ⟨vs2, v2, rfl⟩ : ∃ vs2 v2, vs1 = vs2 ++ [v2] := by
        rcases List.eq_nil_or_concat vs1 with rfl | ⟨x, y, rfl⟩
        · have := hD.length
          simp at this
        · exact ⟨x, y, List.concat_eq_append⟩
      obtain ⟨ds, d, hds, hD1, hD2⟩ := DatAll.snoc hD
      rw [List.map_append] at hds
      obtain ⟨e1, e2⟩ := List.append_inj' hds rfl
      subst e1
      obtain rfl : prD p = d := by simpa using e2
      obtain ⟨ta, tn, t1, t2, rfl, htm⟩ := datPr hD2
      simp only [List.append_eq_nil_iff, List.cons_ne_nil, and_false, decide_false, Bool.not_false]
      iterate 10 walk1
      refine' kim_back (x := .ref ta) (l := vs2 ++ [.ref ta]) (n := nf) N6 ?b1 ?b2 ?b3 ?b4 ?b5 ?b6 ?b7 ?_ ?b8 ?b9
      case b1 => exact .tail _ (.head _)
      case b2 => rfl
      case b3 => rfl
      case b4 => decide
      case b5 => simp only [List.length_append, List.length_cons, List.length_nil]; omega
      case b6 => decide
      case b7 => 
        rw [show (-1 + ((vs2 ++ [Value.ref ta]).length : Int)).toNat = vs2.length by simp only [List.length_append, List.length_cons, List.length_nil]; omega]
        simp
      case b8 => with_unfolding_all rfl
      case b9 => intro _; with_unfolding_all rfl
      rename_i lb _ _
      have htm6 : (ta, ({ cls := .type "tuple", data := .seq #[.int p.1 t1, .int p.2 t2] tn } : Obj)) ∈ (lb, W.listOf #[] 0) :: (lf, W.listOf (vs2 ++ [Value.ref ta]).toArray nf) :: ((tl ++ (D, W.listOf ws.toArray 0) :: news) ++ own) := .tail _ (.tail _ (List.mem_append_left _ (List.mem_append_left _ htm)))
      have hlv2 : vs2.length ≤ 1000 := by
        have := hD1.length
        rw [List.length_map] at this
        simp only [List.length_append, List.length_cons, List.length_nil] at hfdl
        omega
      have hlv : (vs2 ++ [Value.ref ta]).length ≤ 1001 := by simp only [List.length_append, List.length_cons, List.length_nil]; omega
      iterate 9 walk1
      · rename_i hq
        iterate 15 walk1
        refine' kim_back (x := .ref ta) (l := vs2 ++ [.ref ta]) (n := nf) N6 ?b1 ?b2 ?b3 ?b4 ?b5 ?b6 ?b7 ?_ ?b8 ?b9
        case b1 => exact .tail _ (.head _)
        case b2 => rfl
        case b3 => rfl
        case b4 => decide
        case b5 => simp only [List.length_append, List.length_cons, List.length_nil]; omega
        case b6 => decide
        case b7 =>
          rw [show (-1 + ((vs2 ++ [Value.ref ta]).length : Int)).toNat = vs2.length by simp only [List.length_append, List.length_cons, List.length_nil]; omega]
          simp
        case b8 => with_unfolding_all rfl
        case b9 => intro _; with_unfolding_all rfl
        iterate 8 walk1
        rename_i D7 h7 F7 N7 l7
        refine' setLast (x := .ref ta) (ws := vs2) (n := nf) (news := (D7, ({ cls := .type "tuple", data := .seq #[.int one tv, .int p.2 t2] } : Obj)) :: ((tl ++ (D, W.listOf ws.toArray 0) :: news) ++ own)) ?sF ?sN ?so ?sb ?_
        case sF => exact F7
        case sN =>
          refine news_sub N7 fun q hq => ?_
          rcases List.mem_cons.mp hq with rfl | hq
          · exact .tail _ (.tail _ (.head _))
          rcases List.mem_cons.mp hq with rfl | hq
          · exact .head _
          · exact .tail _ (.tail _ (.tail _ hq))
        case so =>
          intro q hq
          rcases List.mem_cons.mp hq with rfl | hq
          · exact Nat.ne_of_gt l7.2.1
          · exact hoffA q hq lf (.head _)
        case sb => omega
        intro h8 F8 N8
        iterate 4 walk1
        refine key (vs2 ++ [.ref D7]) nf [(D7, ({ cls := .type "tuple", data := .seq #[.int one tv, .int p.2 t2] } : Obj))] _ h8 _ _ F8 N8 (fun p hp => hp) (fun p hp => ?_) ?_ rfl
        · rw [List.mem_singleton.mp hp]; exact l7.2
        · rw [joinStep_snoc, if_pos hq, List.map_append]
          exact (hD1.mono fun p hp => .tail _ hp).append (.one (prDat (p := (one, p.2)) (.head _)))
      · rename_i hq
        iterate 22 walk1
        rename_i D7 _ l7 h7 F7 N7
        refine key ((vs2 ++ [.ref ta]) ++ [.ref D7]) (nf + 1) [(D7, ({ cls := .type "tuple", data := .seq #[.int one tv, .int one tv] } : Obj))] _ h7 _ _ F7 ?_ (fun p hp => hp) (fun p hp => ?_) ?_ rfl
        · rw [show (vs2 ++ [Value.ref ta]).toArray.push (Value.ref D7) = ((vs2 ++ [Value.ref ta]) ++ [Value.ref D7]).toArray from List.push_toArray ..] at N7
          refine news_sub N7 fun q hq => ?_
          rcases List.mem_cons.mp hq with rfl | hq
          · exact .tail _ (.tail _ (.head _))
          rcases List.mem_append.mp hq with hq | hq
          · rw [List.mem_singleton.mp hq]; exact .head _
          · exact .tail _ (.tail _ (.tail _ hq))
        · rw [List.mem_singleton.mp hp]; exact l7.2
        · rw [joinStep_snoc, if_neg hq, List.map_append]
          exact (hD.mono fun p hp => .tail _ hp).append (.one (prDat (p := (one, one)) (.head _)))
  case done =>
    rintro m1 nx1 h5 tk5 ⟨vs1, nf, u1, tl, rfl, hoff2, hD, rfl⟩ F5 N5
    rw [show ns3.reverse.take ws.length = ns3.reverse by rw [hwr, List.take_length]] at hD
    unfold joinFrm at F5
    iterate 4 walk1
    rename_i F6 N6 _ _
    refine hret _ ((lf, W.listOf vs1.toArray nf) :: tl) _ _ F6 (news_sub N6 fun p hp => ?_) ?_ ⟨ns3.reverse, ⟨lf, vs1, nf, rfl, List.mem_append_right _ (.head _), hD.mono fun p hp => List.mem_append_right _ (.tail _ hp)⟩, (List.reverse_perm _).trans hp3, ?_⟩
    · rcases List.mem_append.mp hp with hp | hp
      · exact .tail _ (List.mem_append_right _ (.tail _ hp))
      rcases List.mem_cons.mp hp with rfl | hp
      · exact .head _
      · exact .tail _ (List.mem_append_left _ hp)
    · intro p hp b hb
      rcases List.mem_cons.mp hp with rfl | hp
      · obtain ⟨q, hq, rfl⟩ := List.mem_map.mp hb
        exact Nat.ne_of_gt (l2a q hq)
      · exact hoff2 p hp b (.tail _ (.tail _ hb))
    · rw [List.pairwise_reverse]
      exact hs3
end
end
section
set_option autoImplicit false
/-- a number is told of by ranges -/
def InP (rs : List Pr) (n : Int) : Prop := ∃ p ∈ rs, p.1 ≤ n ∧ n ≤ p.2
/-- ranges as a space keeps them: descending, apart, none empty -/
structure Canon (rs : List Pr) : Prop where
  apart : rs.Pairwise fun p q => q.2 + 1 < p.1
  full : ∀ p ∈ rs, p.1 ≤ p.2
theorem Canon.nil : Canon [] := ⟨.nil, fun _ h => nomatch h⟩
theorem InP_nil (n : Int) : ¬ InP [] n := fun ⟨_, h, _⟩ => nomatch h
theorem InP_cons {p : Pr} {rs : List Pr} {n : Int} : InP (p :: rs) n ↔ (p.1 ≤ n ∧ n ≤ p.2) ∨ InP rs n := by
  unfold InP
  simp only [List.mem_cons, exists_eq_or_imp]
theorem InP_append {rs qs : List Pr} {n : Int} : InP (rs ++ qs) n ↔ InP rs n ∨ InP qs n := by
  unfold InP
  simp only [List.mem_append]
  constructor
  · rintro ⟨p, h | h, r⟩
    · exact .inl ⟨p, h, r⟩
    · exact .inr ⟨p, h, r⟩
  · rintro (⟨p, h, r⟩ | ⟨p, h, r⟩)
    · exact ⟨p, .inl h, r⟩
    · exact ⟨p, .inr h, r⟩
theorem Canon.tail {p : Pr} {rs : List Pr} (h : Canon (p :: rs)) : Canon rs := ⟨(List.pairwise_cons.mp h.apart).2, fun q hq => h.full q (.tail _ hq)⟩
theorem Canon.below {p : Pr} {rs : List Pr} (h : Canon (p :: rs)) {n : Int} (hn : InP rs n) : n + 1 < p.1 := by
  obtain ⟨q, hq, h1, h2⟩ := hn
  have := (List.pairwise_cons.mp h.apart).1 q hq
  omega
/-- ranges of that kind are known by their members -/
theorem Canon.ext : ∀ {rs qs : List Pr}, Canon rs → Canon qs → (∀ n, InP rs n ↔ InP qs n) → rs = qs
  | [], [], _, _, _ => rfl
  | [], q :: qs, _, hq, h => absurd ((h q.1).mpr ⟨q, .head _, by omega, hq.full q (.head _)⟩) (InP_nil _)
  | p :: rs, [], hp, _, h => absurd ((h p.1).mp ⟨p, .head _, by omega, hp.full p (.head _)⟩) (InP_nil _)
  | p :: rs, q :: qs, hp, hq, h => by
    have fp := hp.full p (.head _)
    have fq := hq.full q (.head _)
    have hi : p.2 = q.2 := by
      have a := (h p.2).mp ⟨p, .head _, fp, by omega⟩
      have b := (h q.2).mpr ⟨q, .head _, fq, by omega⟩
      rcases InP_cons.mp a with a | a <;> rcases InP_cons.mp b with b | b
      · omega
      · have := hp.below b; omega
      · have := hq.below a; omega
      · have := hp.below b; have := hq.below a; omega
    have lo : p.1 = q.1 := by
      by_cases c1 : p.1 < q.1
      · rcases InP_cons.mp ((h (q.1 - 1)).mp ⟨p, .head _, by omega, by omega⟩) with a | a
        · omega
        · have := hq.below a; omega
      · by_cases c2 : q.1 < p.1
        · rcases InP_cons.mp ((h (p.1 - 1)).mpr ⟨q, .head _, by omega, by omega⟩) with a | a
          · omega
          · have := hp.below a; omega
        · omega
    have e : p = q := Prod.ext lo hi
    subst e
    rw [Canon.ext hp.tail hq.tail fun n => ?_]
    constructor
    · intro hn
      have := hp.below hn
      rcases InP_cons.mp ((h n).mp (InP_cons.mpr (.inr hn))) with a | a
      · omega
      · exact a
    · intro hn
      have := hq.below hn
      rcases InP_cons.mp ((h n).mpr (InP_cons.mpr (.inr hn))) with a | a
      · omega
      · exact a
/-- so many ranges, so many members -/
theorem Canon.len : ∀ {rs : List Pr} {told : List Int}, Canon rs → (∀ n, InP rs n → n ∈ told) → rs.length ≤ told.length
  | [], _, _, _ => Nat.zero_le _
  | p :: rs, told, h, hm => by
    have h1 := hm p.1 ⟨p, .head _, by omega, h.full p (.head _)⟩
    have ih := Canon.len (told := told.erase p.1) h.tail fun n hn => by
      have := h.below hn
      exact (List.mem_erase_of_ne (by omega)).mpr (hm n (InP_cons.mpr (.inr hn)))
    rw [List.length_erase_of_mem h1] at ih
    have := List.length_pos_of_mem h1
    simp only [List.length_cons]
    omega
theorem pruneR_in {rs : List Pr} {low n : Int} : InP (pruneR rs low) n ↔ InP rs n ∧ low ≤ n := by
  unfold pruneR InP
  simp only [List.mem_map, List.mem_filter, decide_eq_true_eq]
  constructor
  · rintro ⟨_, ⟨p, ⟨hp, h1⟩, rfl⟩, h2, h3⟩
    simp only at h2 h3
    exact ⟨⟨p, hp, by omega, h3⟩, by omega⟩
  · rintro ⟨⟨p, hp, h2, h3⟩, h1⟩
    exact ⟨_, ⟨p, ⟨hp, by omega⟩, rfl⟩, by simp only; omega, h3⟩
theorem Canon.prune {rs : List Pr} {low : Int} (h : Canon rs) : Canon (pruneR rs low) := by
  unfold pruneR
  refine ⟨?_, ?_⟩
  · rw [List.pairwise_map]
    refine (h.apart.filter _).imp_of_mem fun {p q} hp hq e => ?_
    simp only
    have := h.full q (List.mem_filter.mp hq).1
    have h2 := (List.mem_filter.mp hq).2
    simp only [decide_eq_true_eq] at h2
    omega
  · intro p hp
    obtain ⟨q, hq, rfl⟩ := List.mem_map.mp hp
    have := h.full q (List.mem_filter.mp hq).1
    have h2 := (List.mem_filter.mp hq).2
    simp only [decide_eq_true_eq] at h2
    simp only
    omega
theorem Canon.app {fs rs : List Pr} : Canon (fs ++ rs) ↔ Canon fs ∧ Canon rs ∧ ∀ p ∈ fs, ∀ q ∈ rs, q.2 + 1 < p.1 := by
  constructor
  · intro h
    obtain ⟨a, b, c⟩ := List.pairwise_append.mp h.apart
    exact ⟨⟨a, fun p hp => h.full p (List.mem_append_left _ hp)⟩, ⟨b, fun p hp => h.full p (List.mem_append_right _ hp)⟩, c⟩
  · rintro ⟨a, b, c⟩
    exact ⟨List.pairwise_append.mpr ⟨a.apart, b.apart, c⟩, fun p hp => (List.mem_append.mp hp).elim (a.full p) (b.full p)⟩
theorem Canon.cons {p : Pr} {rs : List Pr} (h : Canon rs) (h1 : p.1 ≤ p.2) (h2 : ∀ q ∈ rs, q.2 + 1 < p.1) : Canon (p :: rs) :=
  ⟨List.pairwise_cons.mpr ⟨h2, h.apart⟩, fun q hq => (List.mem_cons.mp hq).elim (fun e => e ▸ h1) (h.full q)⟩
theorem Canon.one {p : Pr} (h : p.1 ≤ p.2) : Canon [p] := Canon.cons .nil h fun _ h => nomatch h
/-- what holds between the steps of add_range -/
structure AddOk (c : AddSt) (rs : List Pr) : Prop where
  full : c.low ≤ c.high
  canon : Canon (c.found ++ rs)
  out : c.isIn = false → ∀ p ∈ c.found, c.high + 1 < p.1
  ins : c.isIn = true → ∀ p ∈ rs, p.2 + 1 < c.low
def AddIn (c : AddSt) (rs : List Pr) (n : Int) : Prop := InP (c.found ++ rs) n ∨ (c.isIn = false ∧ c.low ≤ n ∧ n ≤ c.high)
theorem addStep_ok {c : AddSt} {one : Pr} {rs : List Pr} (h : AddOk c (one :: rs)) : AddOk (addStep c one) rs ∧ ∀ n, AddIn (addStep c one) rs n ↔ AddIn c (one :: rs) n := by
  obtain ⟨F, isIn, low, high⟩ := c
  obtain ⟨hf, hc, ho, hi⟩ := h
  simp only at hf hc ho hi
  obtain ⟨cF, cR, cX⟩ := Canon.app.mp hc
  have f1 := cR.full one (.head _)
  have below : ∀ q ∈ rs, q.2 + 1 < one.1 := (List.pairwise_cons.mp cR.apart).1
  unfold addStep
  simp only
  by_cases h1 : one.1 > high + 1
  · rw [if_pos h1]
    have e : F ++ one :: rs = (F ++ [one]) ++ rs := by simp
    refine ⟨⟨hf, e ▸ hc, ?_, ?_⟩, fun n => ?_⟩
    · intro hb p hp
      rcases List.mem_append.mp hp with hp | hp
      · exact ho hb p hp
      · rw [List.mem_singleton.mp hp]; exact h1
    · intro hb p hp
      exact hi hb p (.tail _ hp)
    · unfold AddIn
      simp only
      rw [e]
  · rw [if_neg h1]
    by_cases h2 : one.2 < low - 1
    · rw [if_pos h2]
      cases isIn with
      | false =>
        have hF := ho rfl
        have e : (F ++ [(low, high)]) ++ [one] ++ rs = F ++ ((low, high) :: one :: rs) := by simp
        refine ⟨⟨hf, ?_, (fun hb => by cases hb), fun _ p hp => ?_⟩, fun n => ?_⟩
        · simp only [Bool.false_eq_true, if_false]
          rw [e]
          refine Canon.app.mpr ⟨cF, cR.cons hf fun q hq => ?_, fun p hp q hq => ?_⟩
          · rcases List.mem_cons.mp hq with rfl | hq
            · simp only; omega
            · have := below q hq; simp only; omega
          · rcases List.mem_cons.mp hq with rfl | hq
            · exact hF p hp
            · exact cX p hp q hq
        · have := below p hp; simp only; omega
        · unfold AddIn
          simp only [Bool.false_eq_true, if_false, Bool.true_eq_false, false_and, or_false, true_and]
          rw [e]
          simp only [InP_append, InP_cons]
          constructor
          · rintro (a | a | a | a)
            · exact .inl (.inl a)
            · exact .inr a
            · exact .inl (.inr (.inl a))
            · exact .inl (.inr (.inr a))
          · rintro ((a | a | a) | a)
            · exact .inl a
            · exact .inr (.inr (.inl a))
            · exact .inr (.inr (.inr a))
            · exact .inr (.inl a)
      | true =>
        have e : F ++ one :: rs = (F ++ [one]) ++ rs := by simp
        refine ⟨⟨hf, e ▸ hc, (fun hb => by cases hb), fun _ p hp => hi rfl p (.tail _ hp)⟩, fun n => ?_⟩
        unfold AddIn
        simp only [if_true]
        rw [e]
    · rw [if_neg h2]
      cases isIn with
      | true =>
        have := hi rfl one (.head _)
        omega
      | false =>
        have hF := ho rfl
        refine ⟨⟨?_, Canon.app.mpr ⟨cF, cR.tail, fun p hp q hq => cX p hp q (.tail _ hq)⟩, (fun _ p hp => ?_), (fun hb => by cases hb)⟩, fun n => ?_⟩
        · simp only; omega
        · have a := hF p hp
          have b := cX p hp one (.head _)
          simp only
          omega
        · unfold AddIn
          simp only [true_and, InP_append, InP_cons]
          constructor
          · rintro ((a | a) | a)
            · exact .inl (.inl a)
            · exact .inl (.inr (.inr a))
            · by_cases b : low ≤ n ∧ n ≤ high
              · exact .inr b
              · exact .inl (.inr (.inl (by omega)))
          · rintro ((a | a | a) | a)
            · exact .inl (.inl a)
            · exact .inr (by omega)
            · exact .inl (.inr a)
            · exact .inr (by omega)
theorem addFold_ok : ∀ {rs : List Pr} {c : AddSt}, AddOk c rs → AddOk (rs.foldl addStep c) [] ∧ ∀ n, AddIn (rs.foldl addStep c) [] n ↔ AddIn c rs n
  | [], _, h => ⟨h, fun _ => Iff.rfl⟩
  | _ :: _, _, h => by
    obtain ⟨a, b⟩ := addStep_ok h
    obtain ⟨a2, b2⟩ := addFold_ok a
    exact ⟨a2, fun n => (b2 n).trans (b n)⟩
theorem addR_ok {rs : List Pr} {low high : Int} (h : Canon rs) (hl : low ≤ high) : Canon (addR rs low high) ∧ ∀ n, InP (addR rs low high) n ↔ InP rs n ∨ (low ≤ n ∧ n ≤ high) := by
  have h0 : AddOk ⟨[], false, low, high⟩ rs := ⟨hl, h, (fun _ p hp => nomatch hp), (fun hb => by cases hb)⟩
  obtain ⟨a, b⟩ := addFold_ok h0
  unfold addR addFold
  generalize rs.foldl addStep ⟨[], false, low, high⟩ = c at a b ⊢
  have b' : ∀ n, AddIn c [] n ↔ InP rs n ∨ (low ≤ n ∧ n ≤ high) := fun n => (b n).trans (by unfold AddIn; simp)
  obtain ⟨F, isIn, lo, hi⟩ := c
  obtain ⟨hf, hc, ho, -⟩ := a
  simp only [List.append_nil] at hf hc ho
  cases isIn with
  | true =>
    simp only [if_true]
    refine ⟨hc, fun n => ?_⟩
    rw [← b' n]
    unfold AddIn
    simp
  | false =>
    simp only [Bool.false_eq_true, if_false]
    refine ⟨Canon.app.mpr ⟨hc, .one hf, fun p hp q hq => ?_⟩, fun n => ?_⟩
    · rw [List.mem_singleton.mp hq]; exact ho rfl p hp
    · rw [← b' n]
      unfold AddIn
      simp only [List.append_nil, true_and, InP_append, InP_cons]
      constructor
      · rintro (x | x | x)
        · exact .inl x
        · exact .inr x
        · exact absurd x (InP_nil n)
      · rintro (x | x)
        · exact .inl x
        · exact .inr (.inl x)
/-- _law_joined of a strictly descending list -/
theorem join_ok : ∀ {ms : List Int} {fd : List Pr}, Canon fd → ms.Pairwise (· > ·) → (∀ p, fd.getLast? = some p → ∀ m ∈ ms, m < p.1) → Canon (ms.foldl joinStep fd) ∧ ∀ n, InP (ms.foldl joinStep fd) n ↔ InP fd n ∨ n ∈ ms
  | [], fd, h, _, _ => ⟨h, fun n => by simp⟩
  | m :: ms, fd, h, hd, hl => by
    obtain ⟨d1, d2⟩ := List.pairwise_cons.mp hd
    rcases List.eq_nil_or_concat fd with rfl | ⟨r, p, rfl⟩
    · obtain ⟨a, b⟩ := join_ok (ms := ms) (fd := [(m, m)]) (.one (Int.le_refl _)) d2 (fun q hq x hx => by
        simp only [List.getLast?_singleton, Option.some.injEq] at hq
        subst hq
        exact d1 x hx)
      rw [List.foldl_cons, joinStep_nil]
      refine ⟨a, fun n => ?_⟩
      rw [b n, List.mem_cons, InP_cons]
      have := InP_nil n
      constructor
      · rintro ((x | x) | x)
        · exact .inr (.inl (by simp only at x; omega))
        · exact absurd x this
        · exact .inr (.inr x)
      · rintro (x | x | x)
        · exact absurd x this
        · exact .inl (.inl (by simp only; omega))
        · exact .inr x
    · rw [List.concat_eq_append] at h hl ⊢
      have hp := hl p (by simp) m (.head _)
      obtain ⟨c1, c2, c3⟩ := Canon.app.mp h
      have fp := c2.full p (.head _)
      rw [List.foldl_cons, joinStep_snoc]
      by_cases e : p.1 = m + 1
      · rw [if_pos e]
        obtain ⟨a, b⟩ := join_ok (ms := ms) (fd := r ++ [(m, p.2)]) (Canon.app.mpr ⟨c1, .one (by simp only; omega), fun q hq x hx => by
          rw [List.mem_singleton.mp hx]; exact c3 q hq p (.head _)⟩) d2 (fun q hq x hx => by
          simp only [List.getLast?_append, List.getLast?_singleton, Option.some_or, Option.some.injEq] at hq
          subst hq
          exact d1 x hx)
        refine ⟨a, fun n => ?_⟩
        rw [b n, List.mem_cons]
        simp only [InP_append, InP_cons]
        have := InP_nil n
        constructor
        · rintro ((x | x | x) | x)
          · exact .inl (.inl x)
          · by_cases y : n = m
            · exact .inr (.inl y)
            · exact .inl (.inr (.inl (by omega)))
          · exact absurd x this
          · exact .inr (.inr x)
        · rintro ((x | x | x) | x | x)
          · exact .inl (.inl x)
          · exact .inl (.inr (.inl (by omega)))
          · exact absurd x this
          · exact .inl (.inr (.inl (by omega)))
          · exact .inr x
      · rw [if_neg e]
        obtain ⟨a, b⟩ := join_ok (ms := ms) (fd := (r ++ [p]) ++ [(m, m)]) (Canon.app.mpr ⟨h, .one (Int.le_refl _), fun q hq x hx => by
          rw [List.mem_singleton.mp hx]
          simp only
          rcases List.mem_append.mp hq with hq | hq
          · have := c3 q hq p (.head _); omega
          · rw [List.mem_singleton.mp hq]; omega⟩) d2 (fun q hq x hx => by
          simp only [List.getLast?_append, List.getLast?_singleton, Option.some_or, Option.some.injEq] at hq
          subst hq
          exact d1 x hx)
        refine ⟨a, fun n => ?_⟩
        rw [b n, List.mem_cons]
        simp only [InP_append, InP_cons]
        have := InP_nil n
        constructor
        · rintro ((x | x | x) | x)
          · exact .inl x
          · exact .inr (.inl (by omega))
          · exact absurd x this
          · exact .inr (.inr x)
        · rintro (x | x | x)
          · exact .inl (.inl x)
          · exact .inl (.inr (.inl (by omega)))
          · exact .inr x
end
section
local macro_rules | `(tactic| k_get) => `(tactic| assumption)
section
theorem fillK8 : PySem.Challenge.rw_rg0248_01 = PySem.Challenge.rw_rg0248_01 ∧ hd.heap_39 = hd.heap_39 := by k_fill; exact ⟨rfl, rfl⟩
abbrev intK (w : World) := PySem.intKind PySem.Challenge.rw_rg0248_01.row.prog w
theorem ints_of_keys {w : World} : ∀ {us : List Value} {kvs : List (Int × Value)}, us.length = kvs.length → (∀ (j : Nat) (v : Value), us[j]? = some v → ∃ k x, kvs[j]? = some (k, x) ∧ (intK w).is k v = true) → IntsAre us (kvs.map (·.1))
  | [], [], _, _ => .nil
  | [], _ :: _, h, _ => by simp at h
  | _ :: _, [], h, _ => by simp at h
  | u :: us, (k, x) :: kvs, h, p => by
    obtain ⟨k', x', e, hi⟩ := p 0 u rfl
    obtain ⟨rfl, rfl⟩ : k = k' ∧ x = x' := by simpa using e
    obtain ⟨t, rfl⟩ := Value.isInt_shape hi
    exact .cons k t (ints_of_keys (by simpa using h) fun j v hj => p (j + 1) v (by simpa using hj))
/-- the space's objects in a ledger -/
structure SpAt (w : World) (sp sd se : Addr) (es : List DictEntry) (ne : Nat) (so : Obj) (kvs : List (Int × Value)) (news : Led) : Prop where
  inst : (sp, instObj 230 sd) ∈ news
  dict : (sd, W.dictOf es ne) ∈ news
  sent : (se, so) ∈ news
  isDict : so.IsDictOf (intK w) kvs
  getS : getL (Str.ofString "sent") es = some (some (.ref se))
set_option maxRecDepth 100000 in
set_option maxHeartbeats 800000 in
theorem ackedBy_does {w : World} {mean : ExcName → Option Value} {mg mb : Str → Option Value} {sp sd se : Addr} {es : List DictEntry} {ne : Nat} {so : Obj} {kvs : List (Int × Value)} {rs : List Pr} (hlen : rs.length ≤ 1000) (hns : kvs.length ≤ 1000) (hmod : (se == sysModules) = false) :
    Does w mean mg mb 164 16 (fun news vs => ∃ v, vs = [.ref sp, v] ∧ SpAt w sp sd se es ne so kvs news ∧ PairsAt rs news v) (fun news r => ∃ ms, IntsAt ms news r ∧ ms.Perm ((kvs.map (·.1)).filter (hasN rs)) ∧ ms.Pairwise (· ≤ ·)) := by
  intro dp un gd cn cs a ccd cl outer A₀ base h₀ L m news s vs Q E B F X N T hk hR hd hu hret
  obtain ⟨_, rfl, hS, a, vs, nn, rfl, hm, hA⟩ := hR
  refine wpAny_call ?_
  k_dflt (refine' code_def (binds := [(Str.ofString "self", .ref sp), (Str.ofString "ranges", .ref a)]) ?k1 ?k2 ?k3 ?k4 ?k5 ?kA ?kF ?kK ?k6 ?k7 ?k8 ?k9 ?kB ?_ ?c2 ?c3 ?c4 ?c5; walk_at "mine enter")
  intro g1 L1 h1 FG1 F1 N1 B1 X1 T1
  dsimp only
  k_fold
  obtain ⟨hi, hdi, hse, hiD, hgS⟩ := hS
  iterate 15 walk1
  rename Fr _ _ _ _ => F2
  rename News _ _ _ _ => N2
  obtain ⟨ep, hep⟩ := KdkAt.of hiD
  refine' kdl_N (kdl_dict (knd := intK w) (kvs := kvs) (ep := ep) hmod) ?d1 ?dF ?dN ?d2 ?d3 ?_
  case dF => exact F2
  case dN => exact N2
  case d1 => rfl
  case d2 => exact hep.dictAt (N2 _ hse).1
  case d3 => rw [sizeLine_eq]; omega
  intro D c h3 tk3 us F3 N3 l3 hul hup
  have hI : IntsAre us (kvs.map (·.1)) := ints_of_keys hul hup
  dsimp only
  repeat ((fail_if_success (with_reducible show wpAny _ _ (call (Value.ref _) _) _ _ _)); walk1)
  k_dflt refine' Does.use (acked_does (rs := rs) (ns := kvs.map (·.1)) hlen ?l1) ?uB ?uF ?uX ?uN ?uT ?uk ?up ?u1 ?u2 ?_
  walk_at "mine use"
  case l1 => rw [List.length_map]; exact hns
  case up => exact ⟨_, _, rfl, ⟨D, us, c, rfl, .head _, hI⟩, a, vs, nn, rfl, .tail _ hm, hA.mono fun p hp => .tail _ hp⟩
  intro r tl h4 tk4 F4 N4 off4 hp
  refine leaveK_ F4 N4 fun F5 N5 => ?_
  obtain ⟨ms, ⟨b, ws, k, rfl, hb, hJ⟩, hq1, hq2⟩ := hp
  refine hret _ ((D, W.listOf us.toArray c) :: tl) _ _ F5 (news_sub N5 fun p hp => ?_) ?_ ⟨ms, ⟨b, ws, k, rfl, ?_, hJ⟩, hq1, hq2⟩
  · rcases List.mem_append.mp hp with hp | hp
    · exact .tail _ (List.mem_append_left _ hp)
    rcases List.mem_cons.mp hp with rfl | hp
    · exact .head _
    · exact .tail _ (List.mem_append_right _ hp)
  · intro p hp b hb
    rcases List.mem_cons.mp hp with rfl | hp
    · obtain ⟨q, hq, rfl⟩ := List.mem_map.mp hb
      exact Nat.ne_of_gt (l3 q hq)
    · exact off4 p hp b (.tail _ hb)
  · rcases List.mem_append.mp hb with hb | hb
    · rcases List.mem_cons.mp hb with hb | hb
      · rw [hb]; exact List.mem_append_right _ (.head _)
      · exact List.mem_append_left _ hb
    · exact List.mem_append_right _ (.tail _ hb)
end
section
theorem fillK9 : PySem.Challenge.rw_rg0248_01 = PySem.Challenge.rw_rg0248_01 ∧ hd.heap_39 = hd.heap_39 := by k_fill; exact ⟨rfl, rfl⟩
theorem fold_without (ms : List Int) : ∀ kvs : List (Int × Value), ms.foldl without kvs = kvs.filter fun kv => !ms.contains kv.1 := by
  induction ms with
  | nil => intro kvs; exact (List.filter_eq_self.mpr fun _ _ => rfl).symm
  | cons x r ih =>
    intro kvs
    rw [List.foldl_cons, ih]
    unfold without
    rw [List.filter_filter]
    congr 1
    funext kv
    by_cases h : kv.1 = x <;> simp [h]
theorem valueAt_none {kvs : List (Int × Value)} {k : Int} (h : (valueAt kvs k).isSome = false) : without kvs k = kvs := by
  unfold without
  rw [List.filter_eq_self]
  intro kv hkv
  simp only [ne_eq, decide_eq_true_eq]
  intro e
  have : (kvs.find? fun kv => kv.1 = k).isSome = true := by
    rw [List.find?_isSome]
    exact ⟨kv, hkv, by simpa using e⟩
  unfold valueAt at h
  rw [Option.isSome_map] at h
  rw [h] at this
  cases this
set_option maxRecDepth 100000 in
set_option maxHeartbeats 1600000 in
theorem spTake_does {w : World} {mean : ExcName → Option Value} {mg mb : Str → Option Value}
    {dp un : Nat} {gd : Option (List Code)} {cn : Str} {cs : Scope} {a : Addr} {ccd : Value} {cl : List (Str × Addr)} {outer : List Env} {A₀ : Around} {base h₀ : Heap} {L : Addr} {m : Str → Option Value} {s : Shared}
    {Q E : Value → Shared → Prop} {sp sd se b : Addr} {es : List DictEntry} {ne mm : Nat} {so : Obj} {kvs : List (Int × Value)} {rest : Led} {us : List Value} {ms : List Int}
    (B : Below A₀ base outer h₀) (F : Fr h₀ L s.heap m) (X : (hd.heap_39 w.params).In h₀) (N : News h₀ L s.heap ((se, so) :: rest)) (T : Top hd.view_39 (looseW hd.view_39 []) mean mg mb h₀) (hk : cs.kind = .function)
    (hd : dp + 6 < recursionLimit)
    (hS : SpAt w sp sd se es ne so kvs ((se, so) :: rest)) (hb : (b, W.listOf us.toArray mm) ∈ rest) (hI : IntsAre us ms) (hms : ms.length ≤ 1000) (hkv : kvs.length ≤ 1000) (hoff : OwnOff rest [se]) (hmod : (se == sysModules) = false)
    (hsp : sp ≠ se) (hsd : sd ≠ se)
    (hret : ∀ r so' h' tk', Fr h₀ L h' m → News h₀ L h' ((se, so') :: rest) → so'.IsDictOf (intK w) (kvs.filter fun kv => !ms.contains kv.1) → Q r { s with heap := h', toks := tk' }) :
    wpAny (model PySem.Challenge.rw_rg0248_01.row.prog w) (ktrTop dp un gd cn cs L a ccd cl outer) (call (.ref 157) [.ref sp, .ref b]) Q E s := by
  obtain ⟨hi, hdi, hse, hiD, hgS⟩ := hS
  have hi : (sp, instObj 230 sd) ∈ rest := by
    rcases List.mem_cons.mp hi with e | h
    · exact absurd (congrArg Prod.fst e) hsp
    · exact h
  have hdi : (sd, W.dictOf es ne) ∈ rest := by
    rcases List.mem_cons.mp hdi with e | h
    · exact absurd (congrArg Prod.fst e) hsd
    · exact h
  refine wpAny_call ?_
  k_dflt (refine' code_defC (binds := [(Str.ofString "self", .ref sp), (Str.ofString "numbers", .ref b)]) ?k1 ?k2 ?k3 ?k4 ?k5 ?kA ?kF ?kK ?k6 ?k7 ?k8 ?k9 ?kB ?kD ?_ ?c2 ?c3 ?c4; walk_at "mine enterC")
  intro g1 L1 h1 tk1 cells1 FG1 F1 N1 Y1 B1 X1 T1 l1
  k_cells Y1
  rename_i oN dN
  simp only [List.cons_append, List.nil_append] at N1
  replace dN : oN.data = .cell (some (.ref sp)) := dN
  replace F1 : Fr g1 L1 h1 (fun y => if y = Str.ofString "numbers" then some (.ref b) else none) := F1
  dsimp only
  iterate 1 walk1
  k_dflt (refine LCt.Assign_ListComp_T (F₀ := F1) (by rfl) (by with_unfolding_all rfl) (by with_unfolding_all rfl) (by decide) (by rfl) (by decide) (by rfl) (by rfl) (by rfl) ?_)
  repeat ((fail_if_success (with_reducible show wpAny _ _ (call (Value.builtin _) _) _ _ _)); walk1)
  refine' Srt.sortedN_S F1 N1 ?sl hI ?sz ?_
  case sl => exact News.isList N1 (.tail _ (.tail _ hb))
  case sz => rw [hI.length, sizeLine_eq]; omega
  intro h3 vs3 ns3 e3 F3 N3 hI3 hp3 hs3
  generalize hD3 : (Shared.heap _).objs.size + 1 = D3 at N3 ⊢
  have hD3n : ∀ q ∈ (L1 + 1, oN) :: (se, so) :: rest, q.1 ≠ D3 := by
    intro q hq e
    have := Heap.lt_size (N1 q hq).1
    rw [e, ← hD3] at this
    exact absurd this (Nat.not_lt.mpr (Nat.le_succ _))
  have hl3 : vs3.length = ns3.length := hI3.length
  have hl3' : ns3.length = ms.length := hp3.length_eq
  refine' LCt.CompSrcT.ledger (ax := D3) (its := vs3.toArray) (k := e3) (news := (se, so) :: (D3, seqObj "list" vs3.toArray e3) :: (L1 + 1, oN) :: rest) ?c1 ?c2 ?c3 ?c4 ?c5 ?_
  case c1 => rfl
  case c2 => exact F3
  case c3 =>
    refine news_sub N3 fun p hp => ?_
    rcases List.mem_cons.mp hp with rfl | hp
    · exact .tail _ (.tail _ (.head _))
    rcases List.mem_cons.mp hp with rfl | hp
    · exact .head _
    rcases List.mem_cons.mp hp with rfl | hp
    · exact .tail _ (.head _)
    · exact .tail _ (.tail _ (.tail _ hp))
  case c4 => exact .tail _ (.head _)
  case c5 => rw [List.size_toArray, sizeLine_eq]; omega
  intro g'
  refine compT_inv (n := vs3.toArray.size) (fun i ys nw => ∃ si : Obj, nw = (se, si) :: (D3, seqObj "list" vs3.toArray e3) :: (L1 + 1, oN) :: rest ∧ si.IsDictOf (intK w) ((ns3.take i).foldl without kvs)) (fun ys nw hI => ?fin) ?turn _ 0 [] _ (by omega) ⟨so, rfl, hiD⟩
  case turn =>
    rintro i ys nw v hi' ⟨si, rfl, hsi⟩ hv I oI C oC D m2 h2 tk2 E2 hC hx F2 N2 off2 ne2
    have hi2 : i < ns3.length := by rw [← hl3]; simpa using hi'
    obtain ⟨tv, hx2⟩ := hI3.get i ns3[i] (List.getElem?_eq_getElem hi2)
    obtain rfl : v = .int ns3[i] tv := by
      have hv' : vs3[i]? = some v := by simpa using hv
      rw [hx2] at hv'; exact (Option.some.inj hv').symm
    generalize hone : ns3[i] = one at *
    have hstep : (ns3.take (i + 1)).foldl without kvs = without ((ns3.take i).foldl without kvs) one := by
      rw [take_step hi2, List.foldl_append, hone]; rfl
    have hkl : ((ns3.take i).foldl without kvs).length ≤ 1000 := by
      rw [fold_without]
      exact Nat.le_trans (List.length_filter_le _ _) hkv
    generalize hkv' : (ns3.take i).foldl without kvs = kv at *
    have hi6 : (sp, instObj 230 sd) ∈ (I, oI) :: (C, oC) :: (D, LCg.lst ys) :: (se, si) :: (D3, seqObj "list" vs3.toArray e3) :: (L1 + 1, oN) :: rest := .tail _ (.tail _ (.tail _ (.tail _ (.tail _ (.tail _ hi)))))
    have hdi6 : (sd, W.dictOf es ne) ∈ (I, oI) :: (C, oC) :: (D, LCg.lst ys) :: (se, si) :: (D3, seqObj "list" vs3.toArray e3) :: (L1 + 1, oN) :: rest := .tail _ (.tail _ (.tail _ (.tail _ (.tail _ (.tail _ hdi)))))
    repeat ((fail_if_success (with_reducible show wpAny _ _ (compareOp _ _ _) _ _ _)); walk1)
    refine' kda_in (o := si) (knd := intK w) (kvs := kv) (k := one) N2 ?q1 hsi hmod (intKind_is _ _ _ _) (valueAt kv one).isSome rfl ?_
    case q1 => exact .tail _ (.tail _ (.tail _ (.head _)))
    cases hva : valueAt kv one with
    | none =>
      simp only [Option.isSome_none]
      iterate 2 (first | walk1 | (dsimp only; walk1))
      refine endKeep F2 N2 off2 (.inr ⟨_, .tail _ (.head _), rfl, _, rfl⟩) ⟨si, rfl, ?_⟩
      rw [hstep, valueAt_none (by rw [hva]; rfl)]
      exact hsi
    | some x =>
      simp only [Option.isSome_some]
      iterate 7 (first | walk1 | (dsimp only; walk1))
      refine' kob_method (o := si) (knd := intK w) (kvs := kv) PySem.F.slot_dict_pop PySem.F.type_dict_pop N2 ?q2 hsi ?_
      case q2 => exact .tail _ (.tail _ (.tail _ (.head _)))
      dsimp only
      repeat ((fail_if_success (with_reducible show wpAny _ _ (call (Value.builtin _) _) _ _ _)); walk1)
      have hrest : ∀ p ∈ (D3, seqObj "list" vs3.toArray e3) :: (L1 + 1, oN) :: rest, p.1 ≠ se := by
        intro p hp
        rcases List.mem_cons.mp hp with rfl | hp
        · exact (hD3n (se, so) (.tail _ (.head _))).symm
        rcases List.mem_cons.mp hp with rfl | hp
        · exact Nat.ne_of_gt (Nat.lt_succ_of_lt (l1 (se, so) (.head _)))
        · exact hoff p hp se (.head _)
      have hU : UpdF se si ((I, oI) :: (C, oC) :: (D, LCg.lst ys) :: (se, si) :: (D3, seqObj "list" vs3.toArray e3) :: (L1 + 1, oN) :: rest) (fun o' => (I, oI) :: (C, oC) :: (D, LCg.lst ys) :: (se, o') :: (D3, seqObj "list" vs3.toArray e3) :: (L1 + 1, oN) :: rest) :=
        .tail off2.1.1.symm (.tail off2.1.2.1.symm (.tail off2.1.2.2.symm (.head hrest)))
      refine' kob_pop (more := []) (k := one) F2 N2 hU hsi (intKind_is _ _ _ _) (.inl rfl) ?r1 (PySem.F.args_dict_pop_2 _ _) hva ?r2 ?_
      case r1 => rfl
      case r2 => rw [sizeLine_eq]; omega
      intro h4 o4 F4 N4 hD4
      refine endKeep F4 N4 ?_ (.inr ⟨_, .tail _ (.head _), rfl, _, rfl⟩) ⟨o4, rfl, ?_⟩
      · exact ⟨off2.1, off2.2⟩
      · rw [hstep]; exact hD4
  case fin =>
    obtain ⟨si, rfl, hsi⟩ := hI
    rw [show ns3.take vs3.toArray.size = ns3 by rw [List.size_toArray, hl3, List.take_length]] at hsi
    intro D h2 tk2 F2 N2 off2
    dsimp only
    iterate 4 walk1
    rename_i F4 N4 _ _
    refine hret _ si _ _ F4 (news_sub N4 fun p hp => ?_) ?_
    · rcases List.mem_cons.mp hp with rfl | hp
      · exact .tail _ (.head _)
      · exact .tail _ (.tail _ (.tail _ (.tail _ hp)))
    · rw [fold_without] at hsi
      rw [show (kvs.filter fun kv => !ms.contains kv.1) = kvs.filter fun kv => !ns3.contains kv.1 by
        congr 1; funext kv
        rw [Bool.eq_iff_iff]
        simp only [Bool.not_eq_true', List.contains_eq_mem, decide_eq_false_iff_not]
        exact not_congr hp3.mem_iff.symm]
      exact hsi
end
end
section
set_option autoImplicit false
section
variable {prog : Program} {w : World} {A : Around} {E : Value → Shared → Prop} {s : Shared} {h₀ : Heap} {L : Addr} {m : Str → Option Value} {news : Led}
/-- sorted of a made dict of ints -/
theorem sortedDict {w : World} {d : Addr} {o : Obj} {kvs : List (Int × Value)} {Q : Value → Shared → Prop} (hh : A.handled = none) (F : Fr h₀ L s.heap m) (N : News h₀ L s.heap news) (hp : (d, o) ∈ news) (hd : o.IsDictOf (intK w) kvs) (lo : (d == sysModules) = false) (hsz : kvs.length ≤ 1000)
    (h : ∀ (B : Addr) h' tk (vs : List Value) (ns : List Int) e, Fr h₀ L h' m → News h₀ L h' ((B, seqObj "list" vs.toArray e) :: news) → (∀ q ∈ news, q.1 < B) → IntsAre vs ns → ns.Perm (kvs.map (·.1)) → ns.Pairwise (· ≤ ·) → Q (.ref B) { s with heap := h', toks := tk }) :
    wpAny (model PySem.Challenge.rw_rg0248_01.row.prog w) A (call (.builtin "sorted") [.ref d]) Q E s := by
  obtain ⟨ep, hep⟩ := KdkAt.of hd
  refine kdu_sorted (kdl_dict (knd := intK w) (kvs := kvs) (ep := ep) lo) hh F N (hep.dictAt (N _ hp).1) (by rw [sizeLine_eq]; omega) fun B h' tk vs F' N' l1 hl hv => ?_
  have hI : IntsAre vs (kvs.map (·.1)) := ints_of_keys hl hv
  have hB := N' _ (.head _)
  refine wpAny_call_entry slot_list_sort ⟨_, hB.1, rfl⟩ entry_list_sort (Srt.listSort_S hB.1 hI (by rw [sizeLine_eq]; omega) fun out ns' a1 a2 a3 => ⟨_, rfl, ?_⟩) (args_list_sort _)
  obtain ⟨e, he⟩ := sortedHeap_at (out := out) hB.1
  have old : ∀ b ob, b ≠ B → h'.get? b = some ob → (sortedHeap h' B vs out).get? b = some ob := fun b ob hb e => (sortedHeap_old hb (Heap.lt_size e)).trans e
  refine h B _ _ out.toList ns' e ⟨F'.ns.at' fun ob e => old _ ob hB.2.1.symm e, fun b ob e => old b ob (fun q => by rw [q, hB.2.2] at e; cases e) (F'.keep b ob e), F'.above⟩ (fun p hp => ?_) l1 a1 a2 a3
  rcases List.mem_cons.mp hp with rfl | hp
  · exact ⟨he, hB.2⟩
  · exact ⟨old _ _ (Nat.ne_of_lt (l1 p hp)) (N' p (.tail _ hp)).1, (N' p (.tail _ hp)).2⟩
end
end
section
local macro_rules | `(tactic| k_get) => `(tactic| assumption)
section
local macro_rules | `(tactic| omega) => `(tactic| lia)
section
theorem fillK10 : PySem.Challenge.rw_rg0248_01 = PySem.Challenge.rw_rg0248_01 ∧ hd.heap_39 = hd.heap_39 := by k_fill; exact ⟨rfl, rfl⟩
theorem isStr_of {v : Value} {x y : Str} (h : v.isStr x = true) (hne : x ≠ y) : v.isStr y = false := by
  cases v <;> simp_all [Value.isStr]
theorem getL_put {name : Str} {hsh : Int} {key v u : Value} : ∀ {es : List DictEntry}, getL name es = some (some u) → getL name (putL name hsh key v es) = some (some v)
  | [], h => by simp [getL] at h
  | e :: r, h => by
    unfold putL
    by_cases he : e.key.isStr name = true
    · rw [if_pos he]
      unfold getL
      rw [List.find?_cons_of_pos (by exact he)]
    · rw [if_neg he]
      have h' : getL name r = some (some u) := by
        unfold getL at h ⊢
        rw [List.find?_cons_of_neg (by simpa using he)] at h
        cases hf : r.find? (·.key.isStr name) with
        | some x => rw [hf] at h; exact h
        | none =>
          rw [hf] at h
          simp only at h
          split at h <;> simp at h
      have ih := getL_put (hsh := hsh) (key := key) (v := v) h'
      unfold getL at ih ⊢
      rw [List.find?_cons_of_neg (by simpa using he)]
      cases hf : (putL name hsh key v r).find? (·.key.isStr name) with
      | some x => rw [hf] at ih; exact ih
      | none =>
        rw [hf] at ih
        simp only at ih
        split at ih <;> simp at ih
theorem getL_putO {name other : Str} {hsh : Int} {key v u : Value} (hne : name ≠ other) : ∀ {es : List DictEntry}, getL name es = some (some u) → getL other (putL name hsh key v es) = getL other es
  | [], h => by simp [getL] at h
  | e :: r, h => by
    unfold putL
    by_cases he : e.key.isStr name = true
    · rw [if_pos he]
      have hn := isStr_of he hne
      unfold getL
      rw [List.find?_cons_of_neg (by simpa using hn), List.find?_cons_of_neg (by simpa using hn)]
      rfl
    · rw [if_neg he]
      have h' : getL name r = some (some u) := by
        unfold getL at h ⊢
        rw [List.find?_cons_of_neg (by simpa using he)] at h
        cases hf : r.find? (·.key.isStr name) with
        | some x => rw [hf] at h; exact h
        | none =>
          rw [hf] at h
          simp only at h
          split at h <;> simp at h
      have ih := getL_putO (hsh := hsh) (key := key) (v := v) hne h'
      by_cases ho : e.key.isStr other = true
      · unfold getL
        rw [List.find?_cons_of_pos (by exact ho), List.find?_cons_of_pos (by exact ho)]
      · unfold getL at ih ⊢
        rw [List.find?_cons_of_neg (by simpa using ho), List.find?_cons_of_neg (by simpa using ho)]
        simp only [List.any_cons]
        cases hf : (putL name hsh key v r).find? (·.key.isStr other) <;> cases hg : r.find? (·.key.isStr other) <;> rw [hf, hg] at ih <;> simp only at ih ⊢
        · rcases Bool.eq_false_or_eq_true e.refKey with hk | hk
          · simp only [hk, Bool.true_or]
          · simp only [hk, Bool.false_or]; exact ih
        · split at ih <;> simp at ih
        · split at ih <;> simp at ih
        · exact ih
theorem putL_len {name : Str} {hsh : Int} {key v : Value} : ∀ {es : List DictEntry} {u : Value}, getL name es = some (some u) → (putL name hsh key v es).length = es.length
  | [], u, h => by simp [getL] at h
  | e :: r, u, h => by
    unfold putL
    by_cases he : e.key.isStr name = true
    · rw [if_pos he]; rfl
    · rw [if_neg he]
      have h' : getL name r = some (some u) := by
        unfold getL at h ⊢
        rw [List.find?_cons_of_neg (by simpa using he)] at h
        cases hf : r.find? (·.key.isStr name) with
        | some x => rw [hf] at h; exact h
        | none =>
          rw [hf] at h
          simp only at h
          split at h <;> simp at h
      simp only [List.length_cons, putL_len h']
def noteStep (least : Int) (acc : List Pr) (p : Pr) : List Pr := if p.2 ≥ least then addR acc p.1 p.2 else acc
theorem addR_len (rs : List Pr) (lo hi : Int) : (addR rs lo hi).length ≤ rs.length + 1 := by
  have h := addFold_len rs ⟨[], false, lo, hi⟩
  unfold addR addFold
  simp only [List.length_nil] at h
  have e : (if false = true then 0 else 1) = 1 := rfl
  generalize rs.foldl addStep ⟨[], false, lo, hi⟩ = c at h ⊢
  cases hc : c.isIn
  · simp only [hc] at h ⊢; simp at h ⊢; omega
  · simp only [hc] at h ⊢; simp at h ⊢; omega
theorem noteStep_len (least : Int) (acc : List Pr) (p : Pr) : (noteStep least acc p).length ≤ acc.length + 1 := by
  unfold noteStep
  split
  · exact addR_len _ _ _
  · omega
theorem noteFold_len (least : Int) : ∀ (rs acc : List Pr), (rs.foldl (noteStep least) acc).length ≤ acc.length + rs.length
  | [], acc => by simp
  | p :: r, acc => by
    have h1 := noteStep_len least acc p
    have h2 := noteFold_len least r (noteStep least acc p)
    simp only [List.foldl_cons, List.length_cons]; omega
/-- the space's dict, its ranges among the fields -/
structure SpDict (es es' : List DictEntry) (ak : Value) : Prop where
  acked : getL (Str.ofString "acked") es' = some (some ak)
  other : ∀ n, Str.ofString "acked" ≠ n → getL n es' = getL n es
  len : es'.length = es.length
def noteFrm (sp : Addr) (least : Int) (t : Tok) (u : Str → Option Value) : Str → Option Value := fun y => if y = Str.ofString "self" then some (.ref sp) else if y = Str.ofString "least" then some (.int least t) else u y
theorem noteFrm_of {sp : Addr} {least : Int} {t : Tok} {m : Str → Option Value} (h1 : m (Str.ofString "self") = some (.ref sp)) (h2 : m (Str.ofString "least") = some (.int least t)) : m = noteFrm sp least t m := by
  funext y
  unfold noteFrm
  split
  · rename_i e; rw [e]; exact h1
  split
  · rename_i e; rw [e]; exact h2
  rfl
def NoteJ (sp sd : Addr) (least : Int) (t : Tok) (es : List DictEntry) (rest : Led) (acc rs : List Pr) (i : Nat) (m : Str → Option Value) (nx : Led) : Prop :=
  ∃ (es' : List DictEntry) (ne' : Nat) (tl : Led) (rv : Value) (u : Str → Option Value), nx = (sd, W.dictOf es' ne') :: (tl ++ rest) ∧ OwnOff tl (sd :: rest.map (·.1)) ∧ SpDict es es' rv ∧ PairsAt ((rs.take i).foldl (noteStep least) acc) (tl ++ rest) rv ∧ m = noteFrm sp least t u
theorem spDict_put {es es' : List DictEntry} {rv v key : Value} {hsh : Int} (h : SpDict es es' rv) : SpDict es (putL (Str.ofString "acked") hsh key v es') v :=
  ⟨getL_put h.acked, fun n hn => (getL_putO hn h.acked).trans (h.other n hn), (putL_len h.acked).trans h.len⟩
/-- pairs lie in made tuples alone -/
theorem DatAll_seqs {news news' : Led} (k : ∀ p ∈ news, (∃ xs n, p.2.data = .seq xs n) → p ∈ news') : ∀ {rs : List Pr} {vs : List Value}, DatAll news vs (rs.map prD) → DatAll news' vs (rs.map prD)
  | [], _, h => by cases h; exact .nil
  | _ :: _, _, h => by
    cases h with
    | cons h1 h2 =>
      obtain ⟨a, n, t, u, rfl, hm⟩ := datPr h1
      exact .cons (prDat (k _ hm ⟨_, _, rfl⟩)) (DatAll_seqs k h2)
theorem PairsAt.seqs {news news' : Led} {rs : List Pr} {v : Value} (k : ∀ p ∈ news, (∃ xs n, p.2.data = .seq xs n) → p ∈ news') (h : PairsAt rs news v) : PairsAt rs news' v := by
  obtain ⟨a, vs, n, e, hm, hD⟩ := h
  exact ⟨a, vs, n, e, k _ hm ⟨_, _, rfl⟩, DatAll_seqs k hD⟩
set_option maxRecDepth 100000 in
set_option maxHeartbeats 1600000 in
theorem note_does {w : World} {mean : ExcName → Option Value} {mg mb : Str → Option Value}
    {dp un : Nat} {gd : Option (List Code)} {cn : Str} {cs : Scope} {a : Addr} {ccd : Value} {cl : List (Str × Addr)} {outer : List Env} {A₀ : Around} {base h₀ : Heap} {L : Addr} {m : Str → Option Value} {s : Shared}
    {Q E : Value → Shared → Prop} {sp sd se ak ra : Addr} {es : List DictEntry} {ne na nr : Nat} {so : Obj} {kvs : List (Int × Value)} {rest : Led} {vs us : List Value} {acc rs : List Pr} {least nn : Int} {tn : Tok}
    (B : Below A₀ base outer h₀) (F : Fr h₀ L s.heap m) (X : (hd.heap_39 w.params).In h₀) (N : News h₀ L s.heap ((sd, W.dictOf es ne) :: rest)) (T : Top hd.view_39 (looseW hd.view_39 []) mean mg mb h₀) (hk : cs.kind = .function)
    (hd : dp + 16 < recursionLimit) (hu : un + 8 * 16 < cLine)
    (hi : (sp, instObj 230 sd) ∈ rest) (hse : (se, so) ∈ rest) (hiD : so.IsDictOf (intK w) kvs) (hgS : getL (Str.ofString "sent") es = some (some (.ref se))) (hgA : getL (Str.ofString "acked") es = some (some (.ref ak))) (hgN : getL (Str.ofString "next_number") es = some (some (.int nn tn)))
    (hak : (ak, W.listOf vs.toArray na) ∈ rest) (hA : DatAll rest vs (acc.map prD)) (hra : (ra, W.listOf us.toArray nr) ∈ rest) (hR : DatAll rest us (rs.map prD))
    (hacc : acc.length ≤ 500) (hrs : rs.length ≤ 100) (hel : es.length ≤ 100) (hkv : kvs.length ≤ 1000) (hoff : OwnOff rest [sd]) (hmod : (se == sysModules) = false)
    (hl0 : kvs = [] → least = nn) (hl1 : kvs ≠ [] → least ∈ kvs.map (·.1) ∧ ∀ x ∈ kvs.map (·.1), least ≤ x)
    (hret : ∀ r es' ne' tl rv h' tk', Fr h₀ L h' m → News h₀ L h' ((sd, W.dictOf es' ne') :: (tl ++ rest)) → OwnOff tl (sd :: rest.map (·.1)) → SpDict es es' rv → PairsAt (pruneR (rs.foldl (noteStep least) acc) least) (tl ++ rest) rv → Q r { s with heap := h', toks := tk' }) :
    wpAny (model PySem.Challenge.rw_rg0248_01.row.prog w) (ktrTop dp un gd cn cs L a ccd cl outer) (call (.ref 178) [.ref sp, .ref ra]) Q E s := by
  refine wpAny_call ?_
  k_dflt (refine' code_def (binds := [(Str.ofString "self", .ref sp), (Str.ofString "ranges", .ref ra)]) ?k1 ?k2 ?k3 ?k4 ?k5 ?kA ?kF ?kK ?k6 ?k7 ?k8 ?k9 ?kB ?_ ?c2 ?c3 ?c4 ?c5; walk_at "mine enter")
  intro g1 L1 h1 FG1 F1 N1 B1 X1 T1
  dsimp only
  k_fold
  have hi1 : (sp, instObj 230 sd) ∈ (sd, W.dictOf es ne) :: rest := .tail _ hi
  have hse1 : (se, so) ∈ (sd, W.dictOf es ne) :: rest := .tail _ hse
  iterate 2 walk1
  refine wpAny_mono (Q := fun v s' => ∃ t h' tk', v = Value.int least t ∧ s' = { s with heap := h', toks := tk' } ∧ Fr g1 L1 h' (fun y => List.lookup y [(Str.ofString "self", Value.ref sp), (Str.ofString "ranges", Value.ref ra)].reverse) ∧ News g1 L1 h' ((sd, W.dictOf es ne) :: rest)) ?first ?second (fun _ _ e => e)
  case first =>
    repeat ((fail_if_success (with_reducible show wpAny _ _ (call (Value.builtin _) _) _ _ _)); walk1)
    refine' kda_len (knd := intK w) (kvs := kvs) N1 hse1 hiD hmod ?f1 ?_
    case f1 => omega
    cases kvs with
    | nil =>
      have hleast := hl0 rfl
      subst hleast
      simp only [List.length_nil]
      repeat ((fail_if_success (with_reducible show Exists _)); walk1)
      exact ⟨_, _, _, rfl, rfl, F1, N1⟩
    | cons kv kr =>
      obtain ⟨hl2, hl3⟩ := hl1 (by simp)
      simp only [List.length_cons]
      repeat ((fail_if_success (with_reducible show wpAny _ _ (call (Value.builtin _) _) _ _ _)); walk1)
      refine' minDict (kvs := kv :: kr) rfl F1 N1 hse1 hiD hmod ?g1 ?_
      case g1 => simp
      intro h2 M t tk2 F2 N2 hM hmin
      obtain rfl : M = least := Int.le_antisymm (hmin _ hl2) (hl3 _ hM)
      exact ⟨_, _, _, rfl, rfl, F2, N2⟩
  case second =>
    rintro v s2 ⟨t, h2, tk2, rfl, rfl, F2, N2⟩
    dsimp only
    iterate 3 walk1
    rename_i h3 F3 N3
    with_unfolding_all refine' For_turns F3 ?_
    walk1
    have hra3 : (ra, W.listOf us.toArray nr) ∈ (sd, W.dictOf es ne) :: rest := .tail _ hra
    refine' turnsList (NoteJ sp sd least t es rest acc rs) ?j0 ?j1 hra3 F3 N3 ?start ?turn ?done
    case j0 =>
      intro v hv
      obtain ⟨i, hi', rfl⟩ := List.getElem_of_mem hv
      obtain ⟨_, hdt⟩ := prs_get hR (List.getElem?_eq_getElem hi')
      obtain ⟨ta, _, _, _, e1, _⟩ := datPr hdt
      exact ⟨ta, e1⟩
    case j1 => rfl
    case start =>
      exact ⟨es, ne, [], .ref ak, _, rfl, off_nil, ⟨hgA, fun _ _ => rfl, rfl⟩, ⟨ak, vs, na, rfl, hak, hA⟩, noteFrm_of rfl rfl⟩
    case turn =>
      rintro i v m1 nx1 h5 tk5 own hv hoff1 hsq hml ⟨es1, ne1, tl, rv, u1, rfl, hoff2, hS, hP, rfl⟩ F5 N5
      obtain ⟨hi', hdt⟩ := prs_get hR hv
      obtain ⟨ta, nt, t1, t2, rfl, hta⟩ := datPr hdt
      have hstep : (rs.take (i + 1)).foldl (noteStep least) acc = noteStep least ((rs.take i).foldl (noteStep least) acc) rs[i] := by
        rw [take_step hi', List.foldl_append]; rfl
      have hfl := noteFold_len least (rs.take i) acc
      rw [List.length_take] at hfl
      generalize hfd : (rs.take i).foldl (noteStep least) acc = fd at *
      generalize hp : rs[i] = p at *
      rw [List.cons_append] at N5
      unfold noteFrm at F5
      have hta5 : (ta, ({ cls := .type "tuple", data := .seq #[.int p.1 t1, .int p.2 t2] nt } : Obj)) ∈ (sd, W.dictOf es1 ne1) :: ((tl ++ rest) ++ own) := .tail _ (List.mem_append_left _ (List.mem_append_right _ hta))
      have hi5 : (sp, instObj 230 sd) ∈ (sd, W.dictOf es1 ne1) :: ((tl ++ rest) ++ own) := .tail _ (List.mem_append_left _ (List.mem_append_right _ hi))
      obtain ⟨ak1, vs1, na1, rfl, hak1, hD1⟩ := hP
      have hgA5 := hS.acked
      iterate 10 walk1
      iterate 7 walk1
      · rename_i hge
        repeat ((fail_if_success (with_reducible show wpAny _ _ (call (Value.ref _) _) _ _ _)); walk1)
        rename News _ _ _ _ => N6
        k_dflt refine' Does.use (add_does (rs := fd) (low := p.1) (high := p.2) ?uL) ?uB ?uF ?uX ?uN ?uT ?uk ?up ?u1 ?u2 ?_; walk_at "mine use"
        case uL => omega
        case up => exact ⟨_, _, _, rfl, PairsAt.mono ⟨ak1, vs1, na1, rfl, hak1, hD1⟩ fun q hq => .tail _ (List.mem_append_left _ hq)⟩
        intro r tl2 h7 tk7 F7 N7 off7 hP7
        rw [List.cons_append] at N7
        have hrest7 : ∀ q ∈ ((tl ++ rest) ++ own) ++ tl2, q.1 ≠ sd := by
          intro q hq
          rcases List.mem_append.mp hq with hq | hq
          · rcases List.mem_append.mp hq with hq | hq
            · rcases List.mem_append.mp hq with hq | hq
              · exact hoff2 q hq sd (.head _)
              · exact hoff q hq sd (.head _)
            · exact hoff1 q hq sd (.head _)
          · exact off7 q hq sd (.head _)
        have hi7 : (sp, instObj 230 sd) ∈ (sd, W.dictOf es1 ne1) :: (((tl ++ rest) ++ own) ++ tl2) := .tail _ (List.mem_append_left _ (List.mem_append_left _ (List.mem_append_right _ hi)))
        dsimp only
        iterate 1 walk1
        k_dflt refine' set_dict F7 X1 N7 (InstAt.of_news N7 hi7 (.head _)) ?k5 ?k6 ?k7 ?k8 ?k9 ?k10 ?k11 ?k12 ?k13 ?_
        case k5 => exact rfl
        case k6 => k_is
        case k7 => k_is
        case k8 => k_is
        case k9 => k_is
        case k10 => rw [hgA5]; rfl
        case k11 => exact rfl
        case k12 => exact Upd.head hrest7
        case k13 => rw [putL_len hgA5, hS.len]; omega
        intro h8 F8 N8
        generalize hE : putL _ _ _ _ es1 = es2 at N8
        generalize putN _ es1 _ = ne2 at N8
        have hS2 : SpDict es es2 r := hE ▸ spDict_put hS
        dsimp only
        iterate 3 walk1
        refine ⟨_, _, _, _, (sd, W.dictOf es2 ne2) :: ((tl2 ++ tl) ++ rest), rfl, F8, N8, ?_, ?_, ?_, .tail _ (List.mem_append_right _ hra), _, _, tl2 ++ tl, r, _, rfl, ?_, hS2, ?_, noteFrm_of rfl rfl⟩
        · intro q hq
          rcases List.mem_cons.mp hq with rfl | hq
          · exact .head _
          · refine .tail _ ?_
            rw [List.append_assoc] at hq
            rcases List.mem_append.mp hq with hq | hq
            · exact List.mem_append_right _ hq
            · exact List.mem_append_left _ (List.mem_append_left _ hq)
        · exact fun q hq => .tail _ (List.mem_append_left _ (List.mem_append_right _ hq))
        · intro q hq b hb
          obtain ⟨x, hx, rfl⟩ := List.mem_map.mp hb
          rcases List.mem_cons.mp hx with rfl | hx
          · exact hoff1 q hq _ (.head _)
          · rw [List.append_assoc] at hx
            rcases List.mem_append.mp hx with hx | hx
            · exact (off7 x hx q.1 (List.mem_map.mpr ⟨q, .tail _ (List.mem_append_right _ hq), rfl⟩)).symm
            · exact hoff1 q hq _ (.tail _ (List.mem_map.mpr ⟨x, hx, rfl⟩))
        · intro q hq b hb
          rcases List.mem_append.mp hq with hq | hq
          · refine off7 q hq b ?_
            rcases List.mem_cons.mp hb with e | hb
            · rw [e]; exact .head _
            · obtain ⟨x, hx, rfl⟩ := List.mem_map.mp hb
              exact List.mem_map.mpr ⟨x, .tail _ (List.mem_append_left _ (List.mem_append_right _ hx)), rfl⟩
          · exact hoff2 q hq b hb
        · rw [hstep]
          unfold noteStep
          rw [if_pos (by rename_i hq; first | exact hge | exact of_decide_eq_true hge)]
          refine hP7.seqs fun q hq hs => ?_
          rcases List.mem_append.mp hq with hq | hq
          · rcases List.mem_cons.mp hq with rfl | hq
            · obtain ⟨_, _, e⟩ := hs; cases e
            rcases List.mem_append.mp hq with hq | hq
            · rw [List.append_assoc]; exact List.mem_append_right _ hq
            · obtain ⟨_, _, e⟩ := hs; exact absurd e (hsq q hq _ _)
          · rw [List.append_assoc]; exact List.mem_append_left _ hq
      · rename_i hge
        iterate 3 walk1
        rename Fr _ _ _ _ => F8
        rename News _ _ _ _ => N8
        refine ⟨_, _, _, _, (sd, W.dictOf es1 ne1) :: (tl ++ rest), rfl, F8, N8, ?_, ?_, ?_, .tail _ (List.mem_append_right _ hra), _, _, tl, .ref ak1, _, rfl, hoff2, hS, ?_, noteFrm_of rfl rfl⟩
        · intro q hq
          rcases List.mem_cons.mp hq with rfl | hq
          · exact .head _
          · exact .tail _ (List.mem_append_left _ hq)
        · exact fun q hq => .tail _ (List.mem_append_right _ hq)
        · exact hoff1
        · rw [hstep]
          unfold noteStep
          rw [if_neg (by first | exact hge | exact of_decide_eq_false hge | simpa using hge)]
          exact ⟨ak1, vs1, na1, rfl, hak1, hD1⟩
    case done =>
      rintro m1 nx1 h5 tk5 ⟨es1, ne1, tl, rv, u1, rfl, hoff2, hS, hP, rfl⟩ F5 N5
      have hfl := noteFold_len least (rs.take us.length) acc
      have hul : us.length = rs.length := by have := hR.length; rwa [List.length_map] at this
      rw [hul, List.take_length] at hP hfl
      generalize hfd : rs.foldl (noteStep least) acc = fd at *
      obtain ⟨ak1, vs1, na1, rfl, hak1, hD1⟩ := hP
      have hgA5 := hS.acked
      unfold noteFrm at F5
      have hi5 : (sp, instObj 230 sd) ∈ (sd, W.dictOf es1 ne1) :: (tl ++ rest) := .tail _ (List.mem_append_right _ hi)
      dsimp only
      repeat ((fail_if_success (with_reducible show wpAny _ _ (call (Value.ref _) _) _ _ _)); walk1)
      k_dflt refine' Does.use (prune_does (rs := fd) (low := least) ?uL) ?uB ?uF ?uX ?uN ?uT ?uk ?up ?u1 ?u2 ?_; walk_at "mine use"
      case uL => omega
      case up => exact ⟨_, _, rfl, PairsAt.mono ⟨ak1, vs1, na1, rfl, hak1, hD1⟩ fun q hq => .tail _ hq⟩
      intro r tl2 h7 tk7 F7 N7 off7 hP7
      rw [List.cons_append] at N7
      have hrest7 : ∀ q ∈ (tl ++ rest) ++ tl2, q.1 ≠ sd := by
        intro q hq
        rcases List.mem_append.mp hq with hq | hq
        · rcases List.mem_append.mp hq with hq | hq
          · exact hoff2 q hq sd (.head _)
          · exact hoff q hq sd (.head _)
        · exact off7 q hq sd (.head _)
      have hi7 : (sp, instObj 230 sd) ∈ (sd, W.dictOf es1 ne1) :: ((tl ++ rest) ++ tl2) := .tail _ (List.mem_append_left _ (List.mem_append_right _ hi))
      dsimp only
      iterate 1 walk1
      k_dflt refine' set_dict F7 X1 N7 (InstAt.of_news N7 hi7 (.head _)) ?k5 ?k6 ?k7 ?k8 ?k9 ?k10 ?k11 ?k12 ?k13 ?_
      case k5 => exact rfl
      case k6 => k_is
      case k7 => k_is
      case k8 => k_is
      case k9 => k_is
      case k10 => rw [hgA5]; rfl
      case k11 => exact rfl
      case k12 => exact Upd.head hrest7
      case k13 => rw [putL_len hgA5, hS.len]; omega
      intro h8 F8 N8
      generalize hE : putL _ _ _ _ es1 = es2 at N8
      generalize putN _ es1 _ = ne2 at N8
      have hS2 : SpDict es es2 r := hE ▸ spDict_put hS
      dsimp only
      iterate 2 walk1
      rename Fr _ _ _ _ => F9
      rename News _ _ _ _ => N9
      refine hret _ es2 ne2 (tl2 ++ tl) r _ _ F9 (news_sub N9 fun q hq => ?_) ?_ hS2 ?_
      · rcases List.mem_cons.mp hq with rfl | hq
        · exact .head _
        · refine .tail _ ?_
          rw [List.append_assoc] at hq
          rcases List.mem_append.mp hq with hq | hq
          · exact List.mem_append_right _ hq
          · exact List.mem_append_left _ hq
      · intro q hq b hb
        rcases List.mem_append.mp hq with hq | hq
        · refine off7 q hq b ?_
          rcases List.mem_cons.mp hb with e | hb
          · rw [e]; exact .head _
          · obtain ⟨x, hx, rfl⟩ := List.mem_map.mp hb
            exact List.mem_map.mpr ⟨x, .tail _ (List.mem_append_right _ hx), rfl⟩
        · exact hoff2 q hq b hb
      · refine hP7.seqs fun q hq hs => ?_
        rcases List.mem_append.mp hq with hq | hq
        · rcases List.mem_cons.mp hq with rfl | hq
          · obtain ⟨_, _, e⟩ := hs; cases e
          · rw [List.append_assoc]; exact List.mem_append_right _ hq
        · rw [List.append_assoc]; exact List.mem_append_left _ hq
end
end
section
theorem fillK12 : PySem.Challenge.rw_rg0248_01 = PySem.Challenge.rw_rg0248_01 ∧ hd.heap_39 = hd.heap_39 := by k_fill; exact ⟨rfl, rfl⟩
theorem up4 {h₀ h : Heap} {L : Addr} {p q1 q2 q3 q4 : Addr × Obj} {rest : Led} (_ : News h₀ L h (q1 :: q2 :: q3 :: q4 :: rest)) (hp : p ∈ rest) : p ∈ q1 :: q2 :: q3 :: q4 :: rest := .tail _ (.tail _ (.tail _ (.tail _ hp)))
theorem regroup2 {h₀ h : Heap} {L : Addr} {q1 q2 q3 q4 : Addr × Obj} {rest : Led} (N : News h₀ L h (q1 :: q2 :: q3 :: q4 :: rest)) : News h₀ L h (q3 :: q4 :: ([q1, q2] ++ rest)) :=
  news_sub N fun p hp => by
    simp only [List.mem_cons, List.cons_append, List.nil_append] at hp ⊢
    rcases hp with h | h | h | h | h <;> simp [h]
theorem stored_new {kvs : List (Int × Value)} {k : Int} {v : Value} (h : valueAt kvs k = none) : stored kvs k v = kvs ++ [(k, v)] := by
  unfold stored
  unfold valueAt at h
  rw [Option.map_eq_none_iff] at h
  have h2 : kvs.any (fun kv => kv.1 = k) = false := by
    rw [List.any_eq_false]
    intro kv hkv
    have := List.find?_eq_none.mp h kv hkv
    simpa using this
  simp [h2]
theorem units_under_make (A : Around) (args : Args) : (A.under (.builtin "type.__call__" args)).units ≤ A.units + 8 :=
  Nat.add_le_add_left (show 1 ≤ 8 by decide) A.units
set_option maxRecDepth 100000 in
set_option maxHeartbeats 1600000 in
theorem sent_does {w : World} {mean : ExcName → Option Value} {mg mb : Str → Option Value}
    {dp un : Nat} {gd : Option (List Code)} {cn : Str} {cs : Scope} {a : Addr} {ccd : Value} {cl : List (Str × Addr)} {outer : List Env} {A₀ : Around} {base h₀ : Heap} {L : Addr} {m : Str → Option Value} {s : Shared}
    {Q E : Value → Shared → Prop} {x dx d fa ta : Addr} {es : List DictEntry} {ne nf : Nat} {so : Obj} {kvs : List (Int × Value)} {rest : Led} {one now size : Int} {t1 t2 t3 : Tok} {lv : Value}
    (B : Below A₀ base outer h₀) (F : Fr h₀ L s.heap m) (X : (hd.heap_39 w.params).In h₀) (N : News h₀ L s.heap ((dx, W.dictOf es ne) :: (d, so) :: rest)) (T : Top hd.view_39 (looseW hd.view_39 []) mean mg mb h₀) (hk : cs.kind = .function)
    (hd : dp + 24 < recursionLimit) (hu : un + 8 * 24 < cLine)
    (hi : (x, instObj 230 dx) ∈ rest) (hiD : so.IsDictOf (intK w) kvs) (hgS : getL (Str.ofString "sent") es = some (some (.ref d))) (hgT : getL (Str.ofString "last_eliciting_time") es = some (some lv))
    (hfa : (fa, W.listOf #[.ref ta] nf) ∈ rest) (hta : FrameAt rest ta) (hdd : dx ≠ d) (hoff : OwnOff rest [dx, d]) (hmod : (d == sysModules) = false) (hel : es.length ≤ 100) (hkv : kvs.length ≤ 100) (hnew : valueAt kvs one = none)
    (hret : ∀ r es' ne' so' tl v lv' h' tk', Fr h₀ L h' m → News h₀ L h' ((dx, W.dictOf es' ne') :: (d, so') :: (tl ++ rest)) → OwnOff tl (dx :: d :: rest.map (·.1)) →
      (∀ n, Str.ofString "last_eliciting_time" ≠ n → getL n es' = getL n es) → getL (Str.ofString "last_eliciting_time") es' = some (some lv') → es'.length = es.length → so'.IsDictOf (intK w) (kvs ++ [(one, v)]) → Q r { s with heap := h', toks := tk' }) :
    wpAny (model PySem.Challenge.rw_rg0248_01.row.prog w) (ktrTop dp un gd cn cs L a ccd cl outer) (call (.ref 152) [.ref x, .int one t1, .int now t2, .int size t3, .ref fa]) Q E s := by
  refine wpAny_call ?_
  k_dflt (refine' code_def (binds := [(Str.ofString "self", .ref x), (Str.ofString "number", .int one t1), (Str.ofString "now", .int now t2), (Str.ofString "size", .int size t3), (Str.ofString "frames", .ref fa)]) ?k1 ?k2 ?k3 ?k4 ?k5 ?kA ?kF ?kK ?k6 ?k7 ?k8 ?k9 ?kB ?_ ?c2 ?c3 ?c4 ?c5; walk_at "mine enter")
  intro g1 L1 h1 FG1 F1 N1 B1 X1 T1
  dsimp only
  k_fold
  repeat ((fail_if_success (with_reducible show wpAny _ _ (call (Value.ref _) _) _ _ _)); walk1)
  k_dflt (refine' call_cls F1 X1 N1 ?j4 ?j5 ?j6 ?_)
  case j4 => k_is
  case j5 => k_is
  case j6 => k_is
  intro px pd h2 F2 N2 l1 l2
  have offp : OwnOff rest [pd, px] := by
    intro q hq b hb
    have h1 := l1 q (.tail _ (.tail _ hq))
    rcases List.mem_cons.mp hb with e | hb
    · rw [e]; exact Nat.ne_of_lt h1
    · rw [List.mem_singleton.mp hb]; exact Nat.ne_of_lt (Nat.lt_trans h1 l2)
  have lpd : @LT.lt Nat _ d pd ∧ @LT.lt Nat _ dx pd ∧ @LT.lt Nat _ pd px ∧ @Ne Nat dx d := ⟨l1 (d, so) (.tail _ (.head _)), l1 (dx, _) (.head _), l2, hdd⟩
  k_dflt (refine' code_def (binds := [(Str.ofString "self", .ref px), (Str.ofString "number", .int one t1), (Str.ofString "time", .int now t2), (Str.ofString "size", .int size t3), (Str.ofString "frames", .ref fa)]) ?k1 ?k2 ?k3 ?k4 ?k5 ?kA ?kF ?kK ?k6 ?k7 ?k8 ?k9 ?kB ?_ ?c2 ?c3 ?c4 ?c5)
  case kA => exact rfl
  case kF => exact rfl
  case kK => exact rfl
  case k1 => exact B1
  case k2 => exact F2
  case k3 => exact X1
  case k4 => exact N2
  case k5 => exact T1
  case k6 => k_is
  case k7 => k_is
  case k8 => simp only [depth_under_make, depth_deeper]; omega
  case k9 => exact BindsTo.of_eq rfl
  case kB => exact locs rfl
  case c2 => exact rfl
  case c3 => exact rfl
  case c4 => exact rfl
  case c5 => decide
  intro g3 L3 h3 FG3 F3 N3 B3 X3 T3
  dsimp only
  repeat ((fail_if_success (with_reducible show wpAny _ _ (call (Value.ref 41) _) _ _ _)); walk1)
  rename News _ _ _ _ => N4
  k_dflt refine' Does.use anyE_does ?uB ?uF ?uX ?uN ?uT ?uk ?up ?u1 ?u2 ?_
  case u1 => simp only [depth_under_make, depth_deeper]; omega
  case u2 =>
    refine Nat.lt_of_le_of_lt (Nat.add_le_add_right (Nat.add_le_add_right (units_under_make _ _) _) _) ?_
    simp only [units_deeper]
    omega
  case uB => assumption
  case uF => assumption
  case uX => assumption
  case uN => assumption
  case uT => assumption
  case uk => exact rfl
  case up =>
    obtain ⟨t, n, htm⟩ := hta
    exact ⟨_, _, _, rfl, .tail _ (.tail _ (.tail _ (.tail _ hfa))), t, n, .tail _ (.tail _ (.tail _ (.tail _ htm)))⟩
  rintro r tl h5 tk5 F5 N5 off5 rfl
  replace N5 := news_sub N5 (fun p hp => List.mem_append_left _ hp)
  clear off5
  dsimp only
  repeat ((fail_if_success (with_reducible show wpAny _ _ (call (Value.ref 46) _) _ _ _)); walk1)
  rename News _ _ _ _ => N6
  k_dflt refine' Does.use anyF_does ?uB ?uF ?uX ?uN ?uT ?uk ?up ?u1 ?u2 ?_
  case u1 => simp only [depth_under_make, depth_deeper]; omega
  case u2 =>
    refine Nat.lt_of_le_of_lt (Nat.add_le_add_right (Nat.add_le_add_right (units_under_make _ _) _) _) ?_
    simp only [units_deeper]
    omega
  case uB => assumption
  case uF => assumption
  case uX => assumption
  case uN => assumption
  case uT => assumption
  case uk => exact rfl
  case up =>
    obtain ⟨t, n, htm⟩ := hta
    exact ⟨_, _, _, rfl, .tail _ (.tail _ (.tail _ (.tail _ hfa))), t, n, .tail _ (.tail _ (.tail _ (.tail _ htm)))⟩
  rintro r tl h7 tk7 F7 N7 off7 rfl
  replace N7 := news_sub N7 (fun p hp => List.mem_append_left _ hp)
  clear off7
  dsimp only
  repeat ((fail_if_success (with_reducible show wpAny _ _ (getAttr (Value.ref x) _ _) _ _ _)); walk1)
  rename Fr _ _ _ _ => F8
  rename News _ _ _ _ => N8
  have hi8 := up4 N8 hi
  repeat ((fail_if_success (with_reducible show wpAny _ _ (setItem _ _ _) _ _ _)); walk1)
  refine' kda_set (o := so) (knd := intK w) (kvs := kvs) (k := one) F8 N8 ?q1 hiD (intKind_is _ _ _ _) ?q3 ?_
  case q1 => exact .tail (Nat.ne_of_gt (Nat.lt_trans lpd.1 lpd.2.2.1)) (.tail (Nat.ne_of_gt lpd.1) (.tail hdd (.head fun q hq => hoff q hq d (.tail _ (.head _)))))
  case q3 => rw [sizeLine_eq]; omega
  intro h9 o9 F9 N9 hD9
  dsimp only at N9 ⊢
  have hi9 := up4 N9 hi
  repeat ((fail_if_success (with_reducible show wpAny _ _ (setAttr (Value.ref x) _ _) _ _ _)); walk1)
  rename Fr _ _ _ _ => F10
  rename News _ _ _ _ => N10
  k_dflt refine' set_dict F10 X1 N10 (InstAt.of_news N10 ?ki ?kj) ?k5 ?k6 ?k7 ?k8 ?k9 ?k10 ?k11 ?k12 ?k13 ?_
  case ki => exact hi9
  case kj => exact .tail _ (.tail _ (.head _))
  case k5 => exact rfl
  case k6 => k_is
  case k7 => k_is
  case k8 => k_is
  case k9 => k_is
  case k10 => rw [hgT]; rfl
  case k11 => exact rfl
  case k12 =>
    refine Upd.tail (Nat.ne_of_gt (Nat.lt_trans lpd.2.1 lpd.2.2.1)) (.tail (Nat.ne_of_gt lpd.2.1) (.head fun q hq => ?_))
    rcases List.mem_cons.mp hq with rfl | hq
    · exact hdd.symm
    · exact hoff q hq dx (.head _)
  case k13 => rw [putL_len hgT]; omega
  intro h11 F11 N11
  generalize hE : putL _ _ _ _ es = es2 at N11
  generalize putN _ es _ = ne2 at N11
  dsimp only
  repeat ((fail_if_success (with_reducible show Q _ _)); walk1)
  rename Fr _ _ _ _ => F12
  rename News _ _ _ _ => N12
  refine hret _ es2 ne2 o9 [(px, _), (pd, _)] (.ref px) (.int now t2) _ _ F12 (regroup2 N12) ?_ ?_ ?_ ?_ ?_
  · intro q hq b hb
    have hb' : b = dx ∨ b = d ∨ ∃ r ∈ rest, r.1 = b := by
      rcases List.mem_cons.mp hb with e | hb
      · exact .inl e
      rcases List.mem_cons.mp hb with e | hb
      · exact .inr (.inl e)
      · obtain ⟨r, hr, e⟩ := List.mem_map.mp hb
        exact .inr (.inr ⟨r, hr, e⟩)
    rcases List.mem_cons.mp hq with rfl | hq
    · rcases hb' with e | e | ⟨r, hr, rfl⟩
      · rw [e]; exact Nat.ne_of_gt (Nat.lt_trans lpd.2.1 lpd.2.2.1)
      · rw [e]; exact Nat.ne_of_gt (Nat.lt_trans lpd.1 lpd.2.2.1)
      · exact (offp r hr px (.tail _ (.head _))).symm
    · obtain rfl := List.mem_singleton.mp hq
      rcases hb' with e | e | ⟨r, hr, rfl⟩
      · rw [e]; exact Nat.ne_of_gt lpd.2.1
      · rw [e]; exact Nat.ne_of_gt lpd.1
      · exact (offp r hr pd (.head _)).symm
  · intro n hn
    rw [← hE]
    exact getL_putO hn hgT
  · rw [← hE]
    exact getL_put hgT
  · rw [← hE, putL_len hgT]
  · rw [← stored_new hnew]; exact hD9
end
end
section
/-- the objects of the law that change -/
structure Heads (w : World) (d bx cA cB : Addr) (so c2 c1 : Obj) : Prop where
  dict : ∃ kvs : List (Int × Value), so.IsDictOf (intK w) kvs
  cell2 : ∃ v, c2.data = .cell v
  cell1 : ∃ v, c1.data = .cell v
theorem dict_seq {w : World} {o : Obj} {kvs : List (Int × Value)} (h : o.IsDictOf (intK w) kvs) {xs : Array Value} {n : Nat} : o.data ≠ .seq xs n := by
  intro e
  obtain ⟨ep, hep⟩ := KdkAt.of h
  obtain ⟨_, es, hd, _⟩ := hep
  rw [hd] at e
  cases e
theorem heads_drop {w : World} {dx d bx cA cB D1 : Addr} {es : List DictEntry} {ne n : Nat} {so c2 c1 : Obj} {k : Int} {t : Tok} {R : Led} (H : Heads w d bx cA cB so c2 c1) {p : Addr × Obj}
    (hp : p ∈ (dx, W.dictOf es ne) :: (d, so) :: (bx, W.listOf #[.ref D1, .int k t] n) :: (cA, c2) :: (cB, c1) :: R) {xs : Array Value} {j : Nat} (hs : p.2.data = .seq xs j) (hb : p ≠ (bx, W.listOf #[.ref D1, .int k t] n)) : p ∈ R := by
  obtain ⟨⟨kvs, h1⟩, ⟨v2, h2⟩, ⟨v1, h3⟩⟩ := H
  rcases List.mem_cons.mp hp with rfl | hp
  · cases hs
  rcases List.mem_cons.mp hp with rfl | hp
  · exact absurd hs (dict_seq h1)
  rcases List.mem_cons.mp hp with rfl | hp
  · exact absurd rfl hb
  rcases List.mem_cons.mp hp with rfl | hp
  · rw [h2] at hs; cases hs
  rcases List.mem_cons.mp hp with rfl | hp
  · rw [h3] at hs; cases hs
  exact hp
theorem tup_ne {a bx D1 : Addr} {vs : Array Value} {m n : Nat} {k : Int} {t : Tok} : (a, ({ cls := .type "tuple", data := .seq vs m } : Obj)) ≠ (bx, W.listOf #[.ref D1, .int k t] n) := by
  intro e
  have h := congrArg (fun p : Addr × Obj => p.2.cls) e
  have h' : Value.type "tuple" = Value.type "list" := h
  simp at h'
theorem DatAll_out {w : World} {dx d bx cA cB D1 : Addr} {es : List DictEntry} {ne n : Nat} {so c2 c1 : Obj} {k : Int} {t : Tok} {R : Led} (H : Heads w d bx cA cB so c2 c1) : ∀ {rs : List Pr} {vs : List Value},
    DatAll ((dx, W.dictOf es ne) :: (d, so) :: (bx, W.listOf #[.ref D1, .int k t] n) :: (cA, c2) :: (cB, c1) :: R) vs (rs.map prD) → DatAll R vs (rs.map prD)
  | [], _, h => by cases h; exact .nil
  | _ :: _, _, h => by
    cases h with
    | cons h1 h2 =>
      obtain ⟨a, m, t1, t2, rfl, hm⟩ := datPr h1
      exact .cons (prDat (heads_drop H hm rfl tup_ne)) (DatAll_out H h2)
theorem pairs_out {w : World} {dx d bx cA cB D1 : Addr} {es : List DictEntry} {ne n : Nat} {so c2 c1 : Obj} {k : Int} {t : Tok} {R : Led} (H : Heads w d bx cA cB so c2 c1) {rs : List Pr} {v : Value}
    (h : PairsAt rs ((dx, W.dictOf es ne) :: (d, so) :: (bx, W.listOf #[.ref D1, .int k t] n) :: (cA, c2) :: (cB, c1) :: R) v) : PairsAt rs R v := by
  obtain ⟨a, vs, m, rfl, hm, hD⟩ := h
  refine ⟨a, vs, m, rfl, heads_drop H hm rfl fun e => ?_, DatAll_out H hD⟩
  have h1 : (#[Value.ref D1, Value.int k t] : Array Value) = vs.toArray := by
    have := congrArg (fun p : Addr × Obj => p.2.data) e
    injection this with h2 _
    exact h2.symm
  have h2 : vs = [Value.ref D1, Value.int k t] := by
    have := congrArg Array.toList h1
    simpa using this.symm
  subst h2
  match rs, hD with
  | [], hD => cases hD
  | [_], hD => cases hD with | cons _ h => cases h
  | _ :: _ :: _, hD =>
    cases hD with
    | cons _ h =>
      cases h with
      | cons h1 _ =>
        obtain ⟨a, _, _, _, e, _⟩ := datPr h1
        cases e
theorem ints_out {w : World} {dx d bx cA cB D1 : Addr} {es : List DictEntry} {ne n : Nat} {so c2 c1 : Obj} {k : Int} {t : Tok} {R : Led} (H : Heads w d bx cA cB so c2 c1) {ns : List Int} {v : Value}
    (h : IntsAt ns ((dx, W.dictOf es ne) :: (d, so) :: (bx, W.listOf #[.ref D1, .int k t] n) :: (cA, c2) :: (cB, c1) :: R) v) : IntsAt ns R v := by
  obtain ⟨a, vs, m, rfl, hm, hI⟩ := h
  refine ⟨a, vs, m, rfl, heads_drop H hm rfl fun e => ?_, hI⟩
  have h1 : (#[Value.ref D1, Value.int k t] : Array Value) = vs.toArray := by
    have := congrArg (fun p : Addr × Obj => p.2.data) e
    injection this with h2 _
    exact h2.symm
  have h2 : vs = [Value.ref D1, Value.int k t] := by
    have := congrArg Array.toList h1
    simpa using this.symm
  subst h2
  cases hI
end
section
local macro_rules | `(tactic| omega) => `(tactic| lia)
section
set_option autoImplicit false
def rng (p : Pr) : List Int := (List.range (p.2 + 1 - p.1).toNat).map fun (j : Nat) => p.1 + (j : Int) * 1
def moreOf (rs : List Pr) : List Int := rs.flatMap rng
theorem rng_mem {p : Pr} {n : Int} : n ∈ rng p ↔ p.1 ≤ n ∧ n ≤ p.2 := by
  unfold rng
  simp only [List.mem_map, List.mem_range]
  constructor
  · rintro ⟨j, hj, rfl⟩
    omega
  · rintro ⟨h1, h2⟩
    exact ⟨(n - p.1).toNat, by omega, by omega⟩
theorem more_mem {rs : List Pr} {n : Int} : n ∈ moreOf rs ↔ InP rs n := by
  unfold moreOf InP
  simp only [List.mem_flatMap, rng_mem]
theorem hasN_in {rs : List Pr} {n : Int} : hasN rs n = true ↔ InP rs n := by
  unfold hasN InP
  simp only [List.any_eq_true, Bool.and_eq_true, decide_eq_true_eq]
theorem rng_nodup (p : Pr) : (rng p).Nodup := by
  unfold rng
  refine List.Pairwise.map _ ?_ List.nodup_range
  intro a b h e
  exact h (by omega)
theorem rng_len (p : Pr) : (rng p).length = (p.2 + 1 - p.1).toNat := by unfold rng; simp
theorem more_nodup : ∀ {rs : List Pr}, rs.Pairwise (fun p q => p.2 < q.1 ∨ q.2 < p.1) → (moreOf rs).Nodup
  | [], _ => List.nodup_nil
  | p :: rs, h => by
    obtain ⟨h1, h2⟩ := List.pairwise_cons.mp h
    show (rng p ++ moreOf rs).Nodup
    refine List.nodup_append.mpr ⟨rng_nodup p, more_nodup h2, fun a ha b hb e => ?_⟩
    subst e
    have ha := rng_mem.mp ha
    obtain ⟨q, hq, hb⟩ := more_mem.mp hb
    have := h1 q hq
    omega
/-- what the law needs to know of the six rows of ranges -/
structure RowOk (rs : List Pr) : Prop where
  full : ∀ p ∈ rs, p.1 ≤ p.2
  nodup : (moreOf rs).Nodup
  len : (moreOf rs).length ≤ 12
  few : rs.length ≤ 4
theorem row_ok {top : Int} (h : 214 ≤ top) (k : Nat) : RowOk (rangesOf top k) := by
  have key : ∀ rs : List Pr, (∀ p ∈ rs, p.1 ≤ p.2) → rs.Pairwise (fun p q => p.2 < q.1 ∨ q.2 < p.1) → (moreOf rs).length ≤ 12 → rs.length ≤ 4 → RowOk rs := fun rs a b c d => ⟨a, more_nodup b, c, d⟩
  unfold rangesOf
  split <;> (refine key _ ?_ ?_ ?_ ?_)
  all_goals first
    | (simp; done)
    | (simp [moreOf, rng_len]; done)
    | (simp [moreOf, rng_len]; omega)
    | (simp; omega)
theorem rows_bd {top : Int} (h : 214 ≤ top) (h2 : top ≤ 300) (k : Nat) : ∀ p ∈ rangesOf top k, 0 ≤ p.1 ∧ p.1 ≤ p.2 ∧ p.2 ≤ 300 := by
  unfold rangesOf
  split <;> (intro p hp; simp only [List.mem_cons, List.not_mem_nil, or_false] at hp)
  · subst hp; simp
  · rcases hp with rfl | rfl <;> (simp only; omega)
  · rcases hp with rfl | rfl <;> (simp only; omega)
  · rcases hp with rfl | rfl | rfl <;> (simp only; omega)
  · rcases hp with rfl | rfl <;> (simp only; omega)
  · rcases hp with rfl | rfl | rfl | rfl <;> (simp only; omega)
theorem size_up {a b : Int} (h1 : a ≤ b) : Builtin.Range.rangeSize a b 1 = (((b - a).toNat : Nat) : Int) := by
  unfold Builtin.Range.rangeSize
  split
  · split <;> omega
  · omega
theorem small_up {a b : Int} (h0 : 0 ≤ a) (h1 : a ≤ b) (h2 : b ≤ 1000) : Builtin.Range.small a b 1 = true := by
  unfold Builtin.Range.small
  rw [size_up h1]
  unfold Builtin.Range.rangeFitsLong
  simp only [Bool.and_eq_true, decide_eq_true_eq, Bool.or_eq_true, beq_iff_eq]
  refine ⟨⟨⟨⟨?_, ?_⟩, ?_⟩, ?_⟩, .inr ?_⟩
  · omega
  · omega
  · omega
  · omega
  · rw [if_pos (by decide)]
    simp only [Bool.and_eq_true, decide_eq_true_eq]
    omega
def lawLeast (top : Int) (out : List Int) : Int := match out with | [] => top + 1 | n :: _ => n
def lawOut (rs : List Pr) (out : List Int) : List Int := out.filter fun n => !decide (n ∈ moreOf rs)
def lawTold (rs : List Pr) (least : Int) (told : List Int) : List Int := (told.filter fun n => !decide (n ∈ moreOf rs) && decide (n ≥ least)) ++ (moreOf rs).filter fun n => decide (n ≥ least)
def lawAcked (rs : List Pr) (least : Int) (acked : List Pr) : List Pr := pruneR (rs.foldl (noteStep least) acked) least
structure LawInv (top : Int) (i : Nat) (told out : List Int) (acked : List Pr) : Prop where
  sub : out.Sublist [4, 8, 22, top - 1]
  canon : Canon acked
  same : ∀ n, InP acked n ↔ n ∈ told
  nodup : told.Nodup
  len : told.length ≤ 66 + 12 * i
theorem noteFold_ok {least : Int} : ∀ {rs acc : List Pr}, (∀ p ∈ rs, p.1 ≤ p.2) → Canon acc → Canon (rs.foldl (noteStep least) acc) ∧ ∀ n, InP (rs.foldl (noteStep least) acc) n ↔ InP acc n ∨ ∃ p ∈ rs, p.2 ≥ least ∧ p.1 ≤ n ∧ n ≤ p.2
  | [], acc, _, h => ⟨h, fun n => by simp⟩
  | p :: rs, acc, hf, h => by
    have hs : Canon (noteStep least acc p) ∧ ∀ n, InP (noteStep least acc p) n ↔ InP acc n ∨ (p.2 ≥ least ∧ p.1 ≤ n ∧ n ≤ p.2) := by
      unfold noteStep
      by_cases c : p.2 ≥ least
      · rw [if_pos c]
        obtain ⟨a, b⟩ := addR_ok h (hf p (.head _))
        exact ⟨a, fun n => by rw [b n]; simp [c]⟩
      · rw [if_neg c]
        exact ⟨h, fun n => by simp [c]⟩
    obtain ⟨a, b⟩ := noteFold_ok (fun q hq => hf q (.tail _ hq)) hs.1
    rw [List.foldl_cons]
    refine ⟨a, fun n => ?_⟩
    rw [b n, hs.2 n]
    simp only [List.mem_cons, exists_eq_or_imp]
    exact or_assoc
theorem law_turn {top : Int} {i : Nat} {told out : List Int} {acked rs : List Pr} {least : Int} (hr : RowOk rs) (h : LawInv top i told out acked) :
    LawInv top (i + 1) (lawTold rs least told) (lawOut rs out) (lawAcked rs least acked) := by
  obtain ⟨a, b⟩ := noteFold_ok (least := least) hr.full h.canon
  refine ⟨List.Sublist.trans List.filter_sublist h.sub, a.prune, fun n => ?_, ?_, ?_⟩
  · unfold lawAcked lawTold
    rw [pruneR_in, b n, h.same n]
    simp only [List.mem_append, List.mem_filter, Bool.and_eq_true, Bool.not_eq_true', decide_eq_false_iff_not, decide_eq_true_eq, more_mem]
    constructor
    · rintro ⟨x | ⟨p, hp, _, x⟩, y⟩
      · by_cases z : InP rs n
        · exact .inr ⟨z, y⟩
        · exact .inl ⟨x, z, y⟩
      · exact .inr ⟨⟨p, hp, x⟩, y⟩
    · rintro (⟨x, _, y⟩ | ⟨⟨p, hp, x⟩, y⟩)
      · exact ⟨.inl x, y⟩
      · exact ⟨.inr ⟨p, hp, by omega, x⟩, y⟩
  · unfold lawTold
    refine List.nodup_append.mpr ⟨h.nodup.filter _, hr.nodup.filter _, fun x hx y hy e => ?_⟩
    subst e
    have h1 := (List.mem_filter.mp hx).2
    have h2 := (List.mem_filter.mp hy).1
    simp [h2] at h1
  · unfold lawTold
    have h1 := List.length_filter_le (fun n => !decide (n ∈ moreOf rs) && decide (n ≥ least)) told
    have h2 := List.length_filter_le (fun n => decide (n ≥ least)) (moreOf rs)
    have h3 := hr.len
    have h4 := h.len
    rw [List.length_append]
    omega
/-- the kept ranges are the joined ones -/
theorem law_joined {top : Int} {i : Nat} {told out ms : List Int} {acked : List Pr} (h : LawInv top i told out acked) (hp : ms.Perm told) (hs : ms.Pairwise (· ≥ ·)) : acked = ms.foldl joinStep [] := by
  have hd : ms.Pairwise (· > ·) := by
    have h1 : ms.Nodup := hp.nodup_iff.mpr h.nodup
    refine (hs.and h1).imp fun {x y} e => ?_
    have := e.1
    have := e.2
    omega
  obtain ⟨a, b⟩ := join_ok (fd := []) .nil hd (fun p hp => by cases hp)
  refine Canon.ext h.canon a fun n => ?_
  rw [h.same n, b n, hp.mem_iff]
  simp [InP_nil]
theorem outs_sorted {top : Int} (ht : 214 ≤ top) {out : List Int} (h : out.Sublist [4, 8, 22, top - 1]) : out.Pairwise (· < ·) := by
  refine List.Pairwise.sublist h ?_
  simp
  omega
theorem sorted_out {top : Int} (ht : 214 ≤ top) {out ns : List Int} (h : out.Sublist [4, 8, 22, top - 1]) (hp : ns.Perm out) (hs : ns.Pairwise (· ≤ ·)) : ns = out :=
  List.Perm.eq_of_pairwise (le := (· ≤ ·)) (fun _ _ _ _ x y => Int.le_antisymm x y) hs ((outs_sorted ht h).imp fun {x y} e => Int.le_of_lt e) hp
/-- the least number that is out -/
theorem least_out {top : Int} (ht : 214 ≤ top) {out : List Int} (h : out.Sublist [4, 8, 22, top - 1]) : (out = [] → lawLeast top out = top + 1) ∧ (out ≠ [] → lawLeast top out ∈ out ∧ ∀ x ∈ out, lawLeast top out ≤ x) := by
  have hs := outs_sorted ht h
  cases out with
  | nil => exact ⟨fun _ => rfl, fun e => absurd rfl e⟩
  | cons n r =>
    refine ⟨(fun e => by cases e), fun _ => ⟨.head _, fun x hx => ?_⟩⟩
    rcases List.mem_cons.mp hx with rfl | hx
    · exact Int.le_refl _
    · exact Int.le_of_lt ((List.pairwise_cons.mp hs).1 x hx)
theorem keys_out {rs : List Pr} {out ms : List Int} (hp : ms.Perm (out.filter (hasN rs))) : (out.filter fun n => !ms.contains n) = lawOut rs out := by
  unfold lawOut
  refine List.filter_congr fun x hx => ?_
  congr 1
  rw [Bool.eq_iff_iff]
  simp only [List.contains_eq_mem, decide_eq_true_eq]
  rw [hp.mem_iff, List.mem_filter, hasN_in, more_mem]
  exact ⟨fun e => e.2, fun e => ⟨hx, e⟩⟩
end
end
section
local macro_rules | `(tactic| k_qdec) => `(tactic| decide +kernel)
section
theorem fillKL : PySem.Challenge.rw_rg0248_01 = PySem.Challenge.rw_rg0248_01 ∧ hd.heap_39 = hd.heap_39 := by k_fill; exact ⟨rfl, rfl⟩
end
section
local macro_rules | `(tactic| k_get) => `(tactic| assumption)
section
structure Hide (P : Prop) : Prop where
  out : P
set_option maxRecDepth 100000 in
set_option maxHeartbeats 16000000 in
def pk0 : {P : Prop // Hide P → PySem.Challenge.rw_rg0248_01.Holds} := by
  refine' ⟨_, fun hh0 => hd ?kk⟩
  case kk =>
    k_go0
    (all_goals try k_fold)
    rename_i w s0 s1 mg mb G Y fa oo pm doc ho hg KX X V GL T B TE TW w11 w11o M w10 w9 hcd ns hs hlay0 hLay hr hl2 w6 w5 sc scs w2 hL ra w1 r0 hI hr2 hcond hcond2 K0 hD h1 tk1 F c2o c1o left right N0 X0
    replace F : Fr s1.heap s1.heap.objs.size h1 (fun y => if y = Str.ofString "script" then some (.ref sc) else none) := F
    replace N0 : News s1.heap s1.heap.objs.size h1 [(s1.heap.objs.size + 1 + 1, c2o), (s1.heap.objs.size + 1, c1o)] := N0
    replace left : c2o.data = .cell none := left
    replace right : c1o.data = .cell none := right
    replace K0 : Below callerA s1.heap [] s1.heap := K0
    clear X0 hcond2 hr2 r0 w1 ra hD hl2 hr hLay hlay0 hs TW TE GL V X ho Y
    generalize hL1 : s1.heap.objs.size = L1 at *
    repeat ((fail_if_success (with_reducible show wpAny _ _ (call (Value.ref 241) _) _ _ _)); walk1)
    rename_i D2 ws hq1 hI8 hC8 hL8 lD2 D1 c1n hq2 lD1 bx hq3 lbx x dx hq4 ldx lx g2 L2 hq5 B2 X2 T2 li1 tk2 hq6 hq7 d hq8 od lod hsd fsd hid fid ld hq9 hq10 a2 hq11 la2 hq12 tk3 hq13 hq14 a1 hq15 la1 hq16 tk4 hq17 hq18 hq19 hq20 hq21 hq22 hq23 a0 hq24 la0 hq25 tk5 hq26 F8 N8 Tc8 kX8 T3 hq27 lT3 hq28 hq29 hq30 F9 N9
    clear hcd hcond w5 w6 w2
    clear F8 N8 B2 X2 T2 lifted li1 fsd hsd fid Tc8 kX8
    dsimp only at N9
    clear ek qk
    revert w s0 s1 mg mb G fa oo pm doc hg KX T B w11 w11o M w10 w9 ns sc scs hL hI h1 tk1 c2o c1o qk ek left right K0 L1 hL1 D2 ws hq1 hI8 hC8 hL8 lD2 D1 c1n hq2 lD1 bx hq3 lbx x dx hq4 ldx lx g2 L2 hq5 tk2 hq6 hq7 d hq8 od lod hid ld hq9 hq10 a2 hq11 la2 hq12 tk3 hq13 hq14 a1 hq15 la1 hq16 tk4 hq17 hq18 hq19 hq20 hq21 hq22 hq23 a0 hq24 la0 hq25 tk5 hq26 T3 hq27 lT3 hq28 hq29 hq30 F9 N9 tk
    exact hh0.out
end
end
end
section
local macro_rules | `(tactic| omega) => `(tactic| lia)
section
theorem fillKL1 : PySem.Challenge.rw_rg0248_01 = PySem.Challenge.rw_rg0248_01 ∧ hd.heap_39 = hd.heap_39 := by k_fill; exact ⟨rfl, rfl⟩
theorem mem_mid {α : Type} {pre post : List α} {x p : α} : p ∈ pre ++ x :: post ↔ p ∈ x :: (pre ++ post) := by
  simp only [List.mem_append, List.mem_cons]
  constructor
  · rintro (h | h | h)
    · exact .inr (.inl h)
    · exact .inl h
    · exact .inr (.inr h)
  · rintro (h | h | h)
    · exact .inr (.inl h)
    · exact .inl h
    · exact .inr (.inr h)
theorem all_ne {l : Led} {b : Addr} (k : ∀ c ∈ l.map (fun p : Addr × Obj => p.1), (@Ne Nat c b)) : ∀ p : Addr × Obj, p ∈ l → p.1 ≠ b := fun p hp => k p.1 (List.mem_map.mpr ⟨p, hp, rfl⟩)
theorem ne_cons {a b : Addr} {l : List Addr} (h : (@Ne Nat a b)) (k : ∀ c ∈ l, (@Ne Nat c b)) : ∀ c ∈ a :: l, (@Ne Nat c b) := fun c hc => (List.mem_cons.mp hc).elim (fun e => e ▸ h) (k c)
theorem ne_nil {b : Addr} : ∀ c ∈ ([] : List Addr), (@Ne Nat c b) := fun _ h => nomatch h
/-- take_does, the box in the midst of the ledger -/
theorem takeU {w : World} {mean : ExcName → Option Value} {mg mb : Str → Option Value}
    {dp un : Nat} {gd : Option (List Code)} {cn : Str} {cs : Scope} {a : Addr} {ccd : Value} {cl : List (Str × Addr)} {outer : List Env} {A₀ : Around} {base h₀ : Heap} {L : Addr} {m : Str → Option Value} {s : Shared}
    {Q E : Value → Shared → Prop} {bx l : Addr} {pre post : Led} {ls : List Value} {ns : List Int} {n nl : Nat} {k many : Int} {t u : Tok}
    (B : Below A₀ base outer h₀) (F : Fr h₀ L s.heap m) (X : (hd.heap_39 w.params).In h₀) (N : News h₀ L s.heap (pre ++ (bx, W.listOf #[.ref l, .int k t] n) :: post)) (T : Top hd.view_39 (looseW hd.view_39 []) mean mg mb h₀) (hk : cs.kind = .function)
    (hd : dp + 6 < recursionLimit) (hu : un + 8 * 6 < cLine)
    (hl : (l, W.listOf ls.toArray nl) ∈ pre ++ post) (hI : IntsAre ls ns) (hns : ns.length ≤ 8) (hoff : OwnOff (pre ++ post) [bx]) (hk0 : 0 ≤ k) (hk1 : k ≤ 100) (hm0 : 0 < many) (hm1 : many ≤ 6)
    (hret : ∀ r u t' h' tk', Fr h₀ L h' m → News h₀ L h' (pre ++ (bx, W.listOf #[.ref l, .int (k + 1) t'] n) :: post) → 0 ≤ r → r < many → Q (.int r u) { s with heap := h', toks := tk' }) :
    wpAny (model PySem.Challenge.rw_rg0248_01.row.prog w) (ktrTop dp un gd cn cs L a ccd cl outer) (call (.ref 241) [.ref bx, .int many u]) Q E s :=
  take_does B F X (news_sub N fun _ hp => mem_mid.mpr hp) T hk hd hu hl hI hns hoff hk0 hk1 hm0 hm1 fun r u t' h' tk' F' N' => hret r u t' h' tk' F' (news_sub N' fun _ hp => mem_mid.mp hp)
end
section
theorem fillKL2 : PySem.Challenge.rw_rg0248_01 = PySem.Challenge.rw_rg0248_01 ∧ hd.heap_39 = hd.heap_39 := by k_fill; exact ⟨rfl, rfl⟩
def acked0 (many : Int) : List Pr := (List.range many.toNat).map fun (i : Nat) => (20 + 3 * (many - 1 + (i : Int) * -1), 20 + 3 * (many - 1 + (i : Int) * -1))
theorem acked0_step {many : Int} {i : Nat} (hi : i < many.toNat) : (acked0 many).take (i + 1) = (acked0 many).take i ++ [(20 + 3 * (many - 1 + (i : Int) * -1), 20 + 3 * (many - 1 + (i : Int) * -1))] := by
  have hl : i < (acked0 many).length := by unfold acked0; simp; omega
  rw [take_step hl]
  congr 2
  unfold acked0
  simp
theorem off1_mem {D : Addr} : ∀ {l : Led}, LCg.Off1 D l → ∀ p ∈ l, p.1 ≠ D
  | [], _, _, hp => nomatch hp
  | q :: r, h, p, hp => by
    rcases List.mem_cons.mp hp with rfl | hp
    · exact h.1
    · exact off1_mem h.2 p hp
/-- a turn of a comprehension that made one new object -/
theorem off_one {I C D D4 : Addr} {oI oC oD o4 : Obj} {tl base : Led} (l4 : ∀ p ∈ (I, oI) :: (C, oC) :: (D, oD) :: (tl ++ base), p.1 < D4) (off : LCg.Off3 I C D (tl ++ base)) : LCg.Off3 I C D (((D4, o4) :: tl) ++ base) :=
  ⟨⟨Nat.ne_of_gt (l4 (I, oI) (.head _)), Nat.ne_of_gt (l4 (C, oC) (.tail _ (.head _))), Nat.ne_of_gt (l4 (D, oD) (.tail _ (.tail _ (.head _))))⟩, off⟩
theorem news_one4 {h₀ h : Heap} {L I C D D4 : Addr} {oI oC oD o4 : Obj} {tl base : Led} (N : News h₀ L h ((D4, o4) :: (I, oI) :: (C, oC) :: (D, oD) :: (tl ++ base))) : News h₀ L h ((I, oI) :: (C, oC) :: (D, oD) :: (((D4, o4) :: tl) ++ base)) :=
  news_sub N fun p hp => by
    rcases List.mem_cons.mp hp with rfl | hp
    · exact .tail _ (.head _)
    rcases List.mem_cons.mp hp with rfl | hp
    · exact .tail _ (.tail _ (.head _))
    rcases List.mem_cons.mp hp with rfl | hp
    · exact .tail _ (.tail _ (.tail _ (.head _)))
    rcases List.mem_cons.mp hp with rfl | hp
    · exact .head _
    · exact .tail _ (.tail _ (.tail _ (.tail _ hp)))
theorem off_grow {D4 I C D : Addr} {oI oC oD o4 : Obj} {tl base : Led} (l4 : ∀ p ∈ (I, oI) :: (C, oC) :: (D, oD) :: (tl ++ base), p.1 < D4) (off : OwnOff tl (base.map (·.1))) : OwnOff ((D4, o4) :: tl) (base.map (·.1)) := by
  intro p hp b hb
  rcases List.mem_cons.mp hp with rfl | hp
  · obtain ⟨q, hq, rfl⟩ := List.mem_map.mp hb
    exact Nat.ne_of_gt (l4 q (.tail _ (.tail _ (.tail _ (List.mem_append_right _ hq)))))
  · exact off p hp b hb
theorem regroup3 {h₀ h : Heap} {L : Addr} {p0 p1 p2 p3 : Addr × Obj} {tl : Led} (N : News h₀ L h (p0 :: p1 :: p2 :: p3 :: tl)) : News h₀ L h (p3 :: p0 :: p1 :: p2 :: tl) :=
  news_sub N fun p hp => by
    simp only [List.mem_cons] at hp ⊢
    rcases hp with h | h | h | h | h <;> simp [h]
theorem regroup {h₀ h : Heap} {L : Addr} {p0 p1 p2 p3 p4 p5 p6 p7 p8 p9 p10 p11 p12 : Addr × Obj} {tl : Led} (N : News h₀ L h (p0 :: (tl ++ [p1, p2, p3, p4, p5, p6, p7, p8, p9, p10, p11, p12]))) : News h₀ L h (p0 :: p5 :: p6 :: p7 :: p8 :: p9 :: p11 :: p12 :: tl) :=
  news_sub N fun p hp => by
    simp only [List.mem_cons, List.mem_append, List.not_mem_nil, or_false] at hp ⊢
    rcases hp with h | h | h | h | h | h | h | h | h <;> simp [h]
def told0 (many : Int) : List Int := (List.range many.toNat).map fun (i : Nat) => 20 + 3 * (0 + (i : Int) * 1)
theorem told0_step {many : Int} {i : Nat} (hi : i < many.toNat) : (told0 many).take (i + 1) = (told0 many).take i ++ [20 + 3 * (0 + (i : Int) * 1)] := by
  have hl : i < (told0 many).length := by unfold told0; simp; omega
  rw [take_step hl]
  congr 2
  unfold told0
  simp
end
section
theorem law0 {many top : Int} (hm : 64 ≤ many ∧ many ≤ 66) : LawInv top 0 (told0 many) [4, 8, 22, top - 1] (acked0 many) := by
  refine ⟨List.Sublist.refl _, ⟨?_, ?_⟩, fun n => ?_, ?_, ?_⟩
  · unfold acked0
    rw [List.pairwise_map]
    refine List.Pairwise.imp (fun {a b} h => ?_) List.pairwise_lt_range
    simp only
    omega
  · intro p hp
    unfold acked0 at hp
    obtain ⟨j, _, rfl⟩ := List.mem_map.mp hp
    exact Int.le_refl _
  · unfold InP acked0 told0
    simp only [List.mem_map, List.mem_range]
    constructor
    · rintro ⟨p, ⟨j, hj, rfl⟩, h1, h2⟩
      simp only at h1 h2
      exact ⟨(many - 1 - j).toNat, by omega, by omega⟩
    · rintro ⟨j, hj, rfl⟩
      exact ⟨_, ⟨(many - 1 - j).toNat, by omega, rfl⟩, by simp only; omega, by simp only; omega⟩
  · unfold told0
    refine List.Pairwise.map _ ?_ List.nodup_range
    intro a b h e
    exact h (by omega)
  · unfold told0
    simp
    omega
end
section
local macro_rules | `(tactic| k_get) => `(tactic| assumption)
section
theorem fillKL3 : PySem.Challenge.rw_rg0248_01 = PySem.Challenge.rw_rg0248_01 ∧ hd.heap_39 = hd.heap_39 := by k_fill; exact ⟨rfl, rfl⟩
theorem told0_len (many : Int) : (told0 many).length = many.toNat := by unfold told0; simp
def lawFrm (bx x DT DO : Addr) (many top : Int) (tm tt : Tok) (u : Str → Option Value) : Str → Option Value := fun y =>
  if y = Str.ofString "box" then some (.ref bx) else if y = Str.ofString "space" then some (.ref x) else if y = Str.ofString "many" then some (.int many tm) else if y = Str.ofString "top" then some (.int top tt) else if y = Str.ofString "told" then some (.ref DT) else if y = Str.ofString "out" then some (.ref DO) else u y
theorem lawFrm_of {bx x DT DO : Addr} {many top : Int} {tm tt : Tok} {m : Str → Option Value} (h1 : m (Str.ofString "box") = some (.ref bx)) (h2 : m (Str.ofString "space") = some (.ref x)) (h3 : m (Str.ofString "many") = some (.int many tm)) (h4 : m (Str.ofString "top") = some (.int top tt)) (h5 : m (Str.ofString "told") = some (.ref DT)) (h6 : m (Str.ofString "out") = some (.ref DO)) : m = lawFrm bx x DT DO many top tm tt m := by
  funext y
  unfold lawFrm
  split
  · rename_i e; rw [e]; exact h1
  split
  · rename_i e; rw [e]; exact h2
  split
  · rename_i e; rw [e]; exact h3
  split
  · rename_i e; rw [e]; exact h4
  split
  · rename_i e; rw [e]; exact h5
  split
  · rename_i e; rw [e]; exact h6
  rfl
/-- the fields of the space but for the time of the last packet -/
structure SameBut (es es' : List DictEntry) : Prop where
  same : ∀ n, Str.ofString "last_eliciting_time" ≠ n → getL n es' = getL n es
  time : ∃ lv, getL (Str.ofString "last_eliciting_time") es' = some (some lv)
  len : es'.length = es.length
def SentJ (w : World) (bx x dx d DT DO : Addr) (many top : Int) (es : List DictEntry) (base : Led) (nums : List Int) (i : Nat) (m : Str → Option Value) (nx : Led) : Prop :=
  ∃ (es1 : List DictEntry) (ne1 : Nat) (so : Obj) (kvs : List (Int × Value)) (tl : Led) (u : Str → Option Value) (tm tt : Tok), nx = (dx, W.dictOf es1 ne1) :: (d, so) :: (tl ++ base) ∧ OwnOff tl (dx :: d :: base.map (·.1)) ∧ SameBut es es1 ∧ so.IsDictOf (intK w) kvs ∧ kvs.map (·.1) = nums.take i ∧ m = lawFrm bx x DT DO many top tm tt u
theorem valueAt_new {kvs : List (Int × Value)} {k : Int} (h : k ∉ kvs.map (·.1)) : valueAt kvs k = none := by
  unfold valueAt
  rw [Option.map_eq_none_iff, List.find?_eq_none]
  intro kv hkv e
  exact h (List.mem_map.mpr ⟨kv, hkv, by simpa using e⟩)
theorem regroup20 {h₀ h : Heap} {L : Addr} {p0 p1 p2 p3 p4 p5 p6 p7 p8 p9 p10 : Addr × Obj} {tl : Led} (N : News h₀ L h (p0 :: p1 :: p2 :: p3 :: p4 :: p5 :: p6 :: p7 :: p8 :: p9 :: p10 :: tl)) : News h₀ L h (p3 :: p5 :: ([] ++ (p1 :: p2 :: p4 :: p6 :: p7 :: p8 :: p9 :: p10 :: tl))) :=
  news_sub N fun p hp => by
    simp only [List.mem_cons, List.nil_append] at hp ⊢
    rcases hp with h | h | h | h | h | h | h | h | h | h | h <;> simp [h]
def outs (top : Int) : List Int := [4, 8, 22, top - 1]
end
section
set_option maxRecDepth 100000 in
set_option maxHeartbeats 16000000 in
def pk1 : {P : Prop // Hide P → pk0.1} := by
  refine' ⟨_, fun hh0 => ?kk⟩
  case kk =>
    w_top off
    intro w
    set_option tactic.hygienic false in intros
    k_dflt refine' takeU (pre := [_, _, _, _, _, _, _]) (ls := ws) (ns := ns.take 8) (k := 0) ?uB_WL1 ?uF_WL1 ?uX_WL1 ?uN_WL1 ?uT_WL1 ?uk_WL1 ?u1_WL1 ?u2_WL1 ?ul_WL1 ?uI_WL1 ?un_WL1 ?uo_WL1 ?v1_WL1 ?v2_WL1 ?v3_WL1 ?v4_WL1 ?_
    case uF_WL1 => exact F9
    case uB_WL1 => exact K0
    case uX_WL1 => exact KX
    case uN_WL1 => exact N9
    case uT_WL1 => exact T
    case uk_WL1 => exact rfl
    case u1_WL1 => decide
    case u2_WL1 => decide
    case ul_WL1 => exact .tail _ (.tail _ (.tail _ (.tail _ (.tail _ (.tail _ (.tail _ (.head _)))))))
    case uI_WL1 => exact hI8
    case un_WL1 => rw [List.length_take]; omega
    case uo_WL1 =>
      intro p hp b hb
      rw [List.mem_singleton.mp hb]
      revert p
      show ∀ p : Addr × Obj, p ∈ _ → p.1 ≠ bx
      simp only [List.cons_append, List.nil_append]
      refine all_ne ?_
      simp only [List.map_cons, List.map_nil]
      repeat (first | exact ne_nil | refine ne_cons (by omega) ?_)
    case v1_WL1 => decide
    case v2_WL1 => decide
    case v3_WL1 => decide
    case v4_WL1 => decide
    intro r u0 t0 h11 tk11 F11 N11 hr0 hr1
    simp only [List.cons_append, List.nil_append] at N11
    clear F9 N9
    dsimp only
    repeat ((fail_if_success (with_reducible show wpAny _ _ (eval (Expr.ListComp _ _ _ _) _) _ _ _)); walk1)
    rename Fr _ _ _ _ => F12
    rename News _ _ _ _ => N12
    dsimp only at F12 N12
    generalize hM : (64 : Int) + r = many at *
    generalize hTop : (22 : Int) + 3 * many = top at *
    rename_i zzst1_1 zzst1_2 zzst1_3 zzst1_4
    revert w s0 s1 mg mb G fa oo pm doc hg KX T B w11 w11o M w10 w9 ns sc scs hL hI h1 tk1 c2o c1o qk ek left right K0 L1 hL1 D2 ws hq1 hI8 hC8 hL8 lD2 D1 c1n hq2 lD1 bx hq3 lbx x dx hq4 ldx lx g2 L2 hq5 tk2 hq6 hq7 d hq8 od lod hid ld hq9 hq10 a2 hq11 la2 hq12 tk3 hq13 hq14 a1 hq15 la1 hq16 tk4 hq17 hq18 hq19 hq20 hq21 hq22 hq23 a0 hq24 la0 hq25 tk5 hq26 T3 hq27 lT3 hq28 hq29 hq30 zzst1_1 r u0 t0 h11 tk11 hr0 hr1 zzst1_2 tk zzst1_3 zzst1_4 many hM top hTop F12 N12
    exact hh0.out
end
section
set_option maxRecDepth 100000 in
set_option maxHeartbeats 16000000 in
def pk2 : {P : Prop // Hide P → pk1.1} := by
  refine' ⟨_, fun hh0 => ?kk⟩
  case kk =>
    w_top off
    intro w
    set_option tactic.hygienic false in intros
    k_dflt (refine ListComp_step F12 (by with_unfolding_all rfl) (by decide) (by rfl) (by decide) (by rfl) (by intro _; rfl) ?_)
    repeat ((fail_if_success (with_reducible show SrcStep _ _ _ _ _ _ _ _ _ _ _ _ _ _)); walk1)
    rename Fr _ _ _ _ => F13
    rename News _ _ _ _ => N13
    have hmany : many = 64 ∨ many = 65 ∨ many = 66 := by omega
    refine ⟨_, _, _, _, _, _, _, many.toNat, _, rfl, rfl, F13, N13, by assumption, ?small_WL2, ?size_WL2, ?line_WL2, ?rest_WL2⟩
    case small_WL2 => rcases hmany with h | h | h <;> rw [h] <;> decide
    case size_WL2 => rcases hmany with h | h | h <;> rw [h] <;> decide
    case line_WL2 => rw [sizeLine_eq]; omega
    case rest_WL2 =>
      rintro s₂ ⟨g, rfl⟩
      generalize hbase : (_ :: _ : List (Addr × Obj)) = base at N13 ⊢
      refine compU_inv (n := many.toNat) (fun i ys nw => ∃ tl, nw = tl ++ base ∧ OwnOff tl (base.map (·.1)) ∧ DatAll tl ys (((acked0 many).take i).map prD)) (fun ysA nw hI => ?fin_WL2) ?turn_WL2 _ 0 [] _ (by omega) ⟨[], rfl, off_nil, .nil⟩
      case turn_WL2 =>
        rintro i ys nw v hi ⟨tl, rfl, hoff, hY⟩ ⟨t, rfl⟩ I oI C oC D m2 h2 tk2 E2 hC hx F2 N2 off2 ne2
        repeat ((fail_if_success (with_reducible show wpAny _ _ (newTuple _) _ _ _)); walk1)
        refine kup_newTuple F2 N2 (fun D4 h4 F4 N4 l4 => ?_) (by rw [sizeLine_eq]; simp)
        refine endKeep F4 (news_one4 N4) (off_one l4 off2) trivial ⟨(D4, _) :: tl, rfl, off_grow l4 hoff, ?_⟩
        rw [acked0_step hi, List.map_append]
        exact (hY.mono fun p hp => .tail _ hp).append (.one (prDat (p := (20 + 3 * (many - 1 + (i : Int) * -1), 20 + 3 * (many - 1 + (i : Int) * -1))) (.head _)))
      case fin_WL2 =>
        obtain ⟨tl, rfl, hoff, hY⟩ := hI
        rw [show (acked0 many).take many.toNat = acked0 many by rw [List.take_of_length_le]; unfold acked0; simp] at hY
        subst hbase
        intro DA h14 tk14 F14 N14 off14
        have hA14 : ∀ b ∈ (tl ++ ([_, _, _, _, _, _, _, _, _, _, _, _] : Led)).map (fun p : Addr × Obj => p.1), DA ≠ b := fun b hb => by
          obtain ⟨p, hp, rfl⟩ := List.mem_map.mp hb
          exact (off1_mem off14 p hp).symm
        simp only [List.map_append, List.map_cons, List.map_nil] at hA14
        have N15 := regroup N14
        clear N14
        simp only [List.map_cons, List.map_nil] at hoff
        have lDA : (@Ne Nat DA dx) ∧ (@Ne Nat DA d) ∧ (@Ne Nat DA x) ∧ (@Ne Nat DA bx) ∧ (@Ne Nat DA D1) ∧ (@Ne Nat DA (L1 + 1 + 1)) ∧ (@Ne Nat DA (L1 + 1)) := by
          refine ⟨?_, ?_, ?_, ?_, ?_, ?_, ?_⟩ <;> (refine hA14 _ (List.mem_append_right _ ?_); repeat (first | exact List.Mem.head _ | refine List.Mem.tail _ ?_))
        dsimp only
        repeat ((fail_if_success (with_reducible show wpAny _ _ (setAttr _ _ _) _ _ _)); walk1)
        have N16 := regroup3 N15
        clear N15
        generalize hes0 : ([_, _, _, _, _, _, _, _, _, _, _, _, _, _, _, _, _] : List DictEntry) = es0 at N16
        have g1 : getL (Str.ofString "sent") es0 = some (some (.ref d)) := by rw [← hes0]; exact rfl
        have g2 : getL (Str.ofString "acked") es0 = some (some (.ref a2)) := by rw [← hes0]; exact rfl
        have g3 : ∃ tn, getL (Str.ofString "next_number") es0 = some (some (.int (top + 1) tn)) := by rw [← hes0]; exact ⟨_, rfl⟩
        have g5 : getL (Str.ofString "last_eliciting_time") es0 = some (some .none) := by rw [← hes0]; exact rfl
        have g6 : getL (Str.ofString "on_sent") es0 = some none ∧ getL (Str.ofString "acked_by") es0 = some none ∧ getL (Str.ofString "take") es0 = some none ∧ getL (Str.ofString "note_ranges") es0 = some none := by rw [← hes0]; exact ⟨rfl, rfl, rfl, rfl⟩
        have g4 : es0.length = 17 := by rw [← hes0]; rfl
        obtain ⟨tn, g3⟩ := g3
        clear hes0
        k_dflt refine' set_dict F14 KX N16 (InstAt.of_news N16 ?ki_WL2 (.head _)) ?k5_WL2 ?k6_WL2 ?k7_WL2 ?k8_WL2 ?k9_WL2 ?k10_WL2 ?k11_WL2 ?k12_WL2 ?k13_WL2 ?_
        case ki_WL2 => exact .tail _ (.tail _ (.tail _ (.head _)))
        case k5_WL2 => exact rfl
        case k6_WL2 => k_is
        case k7_WL2 => k_is
        case k8_WL2 => k_is
        case k9_WL2 => k_is
        case k10_WL2 => rw [g2]; rfl
        case k11_WL2 => exact rfl
        case k12_WL2 =>
          refine' Upd.head ?ka_WL2
          case ka_WL2 =>
            refine all_ne ?_
            simp only [List.map_cons]
            repeat (first | exact ne_nil | refine ne_cons (by omega) ?_)
            exact fun c hc => (List.mem_map.mp hc).elim fun q h => h.2 ▸ hoff q h.1 dx (by simp)
        case k13_WL2 => rw [putL_len g2, g4]; decide
        intro h16 F16 N17
        generalize hE : putL _ _ _ _ es0 = es at N17
        generalize putN _ es0 _ = ne at N17
        have gS : getL (Str.ofString "sent") es = some (some (.ref d)) := by rw [← hE, getL_putO (by decide) g2]; exact g1
        have gA : getL (Str.ofString "acked") es = some (some (.ref DA)) := by rw [← hE]; exact getL_put g2
        have gN : getL (Str.ofString "next_number") es = some (some (.int (top + 1) tn)) := by rw [← hE, getL_putO (by decide) g2]; exact g3
        have gT : getL (Str.ofString "last_eliciting_time") es = some (some .none) := by rw [← hE, getL_putO (by decide) g2]; exact g5
        have gM : getL (Str.ofString "on_sent") es = some none ∧ getL (Str.ofString "acked_by") es = some none ∧ getL (Str.ofString "take") es = some none ∧ getL (Str.ofString "note_ranges") es = some none := by rw [← hE, getL_putO (by decide) g2, getL_putO (by decide) g2, getL_putO (by decide) g2, getL_putO (by decide) g2]; exact g6
        have gL : es.length = 17 := by rw [← hE, putL_len g2]; exact g4
        clear hE g1 g2 g3 g4 g5 g6 N16
        dsimp only
        repeat ((fail_if_success (with_reducible show wpAny _ _ (eval (Expr.ListComp _ _ _ _) _) _ _ _)); walk1)
        clear F13 N13 F14 hA14
        rename_i zzst2_1 zzst2_2 zzst2_3 zzst2_4 zzst2_5 zzst2_6 zzst2_7 zzst2_8 zzst2_9
        revert w s0 s1 mg mb G fa oo pm doc hg KX T B w11 w11o M w10 w9 ns sc scs hL hI h1 tk1 c2o c1o qk ek left right K0 L1 hL1 D2 ws hq1 hI8 hC8 hL8 lD2 D1 c1n hq2 lD1 bx hq3 lbx x dx hq4 ldx lx g2 L2 hq5 tk2 hq6 hq7 d hq8 od lod hid ld hq9 hq10 a2 hq11 la2 hq12 tk3 hq13 hq14 a1 hq15 la1 hq16 tk4 hq17 hq18 hq19 hq20 hq21 hq22 hq23 a0 hq24 la0 hq25 tk5 hq26 T3 hq27 lT3 hq28 hq29 hq30 zzst1_1 r u0 t0 h11 tk11 hr0 hr1 zzst1_2 tk zzst1_3 zzst1_4 many hM top hTop zzst2_1 zzst2_2 zzst2_3 zzst2_4 zzst2_5 zzst2_6 zzst2_7 zzst2_8 zzst2_9 hmany g ysA tl hY DA h14 tk14 off14 hoff lDA es0 tn h16 F16 es ne N17 gS gA gN gT gM gL
        exact hh0.out
end
section
set_option maxRecDepth 100000 in
set_option maxHeartbeats 16000000 in
def pk3 : {P : Prop // Hide P → pk2.1} := by
  refine' ⟨_, fun hh0 => ?kk⟩
  case kk =>
    w_top off
    intro w
    set_option tactic.hygienic false in intros
    k_dflt (refine ListComp_step F16 (by with_unfolding_all rfl) (by decide) (by rfl) (by decide) (by rfl) (by intro _; rfl) ?_)
    repeat ((fail_if_success (with_reducible show SrcStep _ _ _ _ _ _ _ _ _ _ _ _ _ _)); walk1)
    rename Fr _ _ _ _ => F18
    rename News _ _ _ _ => N18
    refine ⟨_, _, _, _, _, _, _, many.toNat, _, rfl, rfl, F18, N18, by assumption, ?small_WL3, ?size_WL3, ?line_WL3, ?rest_WL3⟩
    case small_WL3 => rcases hmany with h | h | h <;> rw [h] <;> decide
    case size_WL3 => rcases hmany with h | h | h <;> rw [h] <;> decide
    case line_WL3 => rw [sizeLine_eq]; omega
    case rest_WL3 =>
      rintro s₂ ⟨g, rfl⟩
      generalize hbase : (_ :: _ : List (Addr × Obj)) = base at N18 ⊢
      refine compU_inv (n := many.toNat) (fun i ys nw => base = nw ∧ IntsAre ys ((told0 many).take i)) (fun ysT nw hI => ?fin_WL3) ?turn_WL3 _ 0 [] _ (by omega) ⟨rfl, .nil⟩
      case turn_WL3 =>
        rintro i ys nw v hi ⟨rfl, hY⟩ ⟨t, rfl⟩ I oI C oC D m2 h2 tk2 E2 hC hx F2 N2 off2 ne2
        iterate 7 walk1
        refine endKeep F2 N2 off2 trivial ⟨rfl, ?_⟩
        rw [told0_step hi]
        exact hY.append (.cons _ _ .nil)
      case fin_WL3 =>
        obtain ⟨rfl, hY2⟩ := hI
        rw [List.take_of_length_le (by rw [told0_len]; exact Nat.le_refl _)] at hY2
        subst hbase
        intro DT h19 tk19 F19 N19 off19
        simp only [LCg.Off1] at off19
        dsimp only
        repeat ((fail_if_success (with_reducible show wpAny _ _ (exec (Stmt.For _ _ _ _ _ _) _) _ _ _)); walk1)
        rename Fr _ _ _ _ => F20
        rename News _ _ _ _ => N20
        rename_i DO hu1 lDO TQ hu2 lTQ hu3 hu4 hu5
        have N21 := regroup20 N20
        rw [List.nil_append] at N21
        generalize hvsO : ([Value.int 4 _, Value.int 8 _, Value.int 22 _, Value.int (top - 1) _] : List Value) = vsO at N21
        generalize hbase : ((DO, _) :: _ : List (Addr × Obj)) = base at N21
        have hoffB : ∀ q ∈ base, q.1 ≠ dx ∧ q.1 ≠ d := by
          subst hbase
          refine fun q hq => ⟨?_, ?_⟩
          · refine all_ne ?_ q hq
            simp only [List.map_cons]
            repeat (first | exact ne_nil | refine ne_cons (by omega) ?_ )
            exact fun c hc => (List.mem_map.mp hc).elim fun q h => h.2 ▸ hoff q h.1 dx (by simp)
          · refine all_ne ?_ q hq
            simp only [List.map_cons]
            repeat (first | exact ne_nil | refine ne_cons (by omega) ?_ )
            exact fun c hc => (List.mem_map.mp hc).elim fun q h => h.2 ▸ hoff q h.1 d (by simp)
        have hO : (DO, W.listOf vsO.toArray 0) ∈ base := by subst hbase; exact .head _
        have hIO : IntsAre vsO (outs top) := by subst hvsO; exact .cons _ _ (.cons _ _ (.cons _ _ (.cons _ _ .nil)))
        have hT : (DT, W.listOf ysT.toArray ysT.length) ∈ base := by subst hbase; exact .tail _ (.head _)
        have hA : (DA, W.listOf ysA.toArray ysA.length) ∈ base := by subst hbase; exact .tail _ (.tail _ (.head _))
        have hx : (x, instObj 230 dx) ∈ base := by subst hbase; exact .tail _ (.tail _ (.tail _ (.head _)))
        clear hvsO
        clear N20
        rename_i zzst3_1 zzst3_2 zzst3_3 zzst3_4 zzst3_5 zzst3_6 zzst3_7 zzst3_8 zzst3_9
        revert w s0 s1 mg mb G fa oo pm doc hg KX T B w11 w11o M w10 w9 ns sc scs hL hI h1 tk1 c2o c1o qk ek left right K0 L1 hL1 D2 ws hq1 hI8 hC8 hL8 lD2 D1 c1n hq2 lD1 bx hq3 lbx x dx hq4 ldx lx g2 L2 hq5 tk2 hq6 hq7 d hq8 od lod hid ld hq9 hq10 a2 hq11 la2 hq12 tk3 hq13 hq14 a1 hq15 la1 hq16 tk4 hq17 hq18 hq19 hq20 hq21 hq22 hq23 a0 hq24 la0 hq25 tk5 hq26 T3 hq27 lT3 hq28 hq29 hq30 zzst1_1 r u0 t0 h11 tk11 hr0 hr1 zzst1_2 zzst3_1 zzst1_3 zzst1_4 many hM top hTop zzst2_3 zzst2_4 zzst2_5 zzst2_6 zzst2_7 zzst2_8 zzst2_9 hmany zzst3_2 ysA tl hY DA h14 tk14 off14 hoff lDA es0 tn h16 es ne gS gA gN gT gM gL zzst3_3 zzst3_4 zzst3_5 zzst3_6 zzst3_7 zzst3_8 zzst3_9 g ysT hY2 DT h19 tk19 off19 DO hu1 lDO TQ hu2 lTQ hu3 hu4 hu5 F20 tk vsO base hbase N21 hoffB hO hIO hT hA hx
        exact hh0.out
end
end
end
section
local macro_rules | `(tactic| k_get) => `(tactic| assumption)
section
theorem fillKL4 : PySem.Challenge.rw_rg0248_01 = PySem.Challenge.rw_rg0248_01 ∧ hd.heap_39 = hd.heap_39 := by k_fill; exact ⟨rfl, rfl⟩
theorem regroupT {h₀ h : Heap} {L : Addr} {q1 q2 o t a x b d1 c2 c1 : Addr × Obj} {tl1 tl : Led} (N : News h₀ L h (q1 :: q2 :: (tl1 ++ (o :: t :: a :: x :: b :: d1 :: c2 :: c1 :: tl)))) : News h₀ L h (q1 :: q2 :: b :: c2 :: c1 :: ((tl1 ++ o :: t :: a :: tl) ++ [x, d1])) :=
  news_sub N fun p hp => by
    simp only [List.mem_cons, List.mem_append, List.not_mem_nil, or_false] at hp ⊢
    rcases hp with h | h | h | h | h | (h | h | h | h | h) | h | h <;> simp [h]
theorem ne_consR {p a : Addr} {l : List Addr} (h : (@Ne Nat p a)) (k : ∀ b ∈ l, (@Ne Nat p b)) : ∀ b ∈ a :: l, (@Ne Nat p b) := fun b hb => (List.mem_cons.mp hb).elim (fun e => e ▸ h) (k b)
theorem ne_nilR {p : Addr} : ∀ b ∈ ([] : List Addr), (@Ne Nat p b) := fun _ h => nomatch h
theorem off_app {a b : Led} {adr : List Addr} (h : OwnOff a adr) (k : OwnOff b adr) : OwnOff (a ++ b) adr := fun q hq => (List.mem_append.mp hq).elim (h q) (k q)
theorem off_consL {p : Addr × Obj} {l : Led} {adr : List Addr} (h : ∀ b ∈ adr, (@Ne Nat p.1 b)) (k : OwnOff l adr) : OwnOff (p :: l) adr := fun q hq => (List.mem_cons.mp hq).elim (fun e => e ▸ h) (k q)
def turnFrm (bx x DT DO : Addr) (top : Int) (tt : Tok) (u : Str → Option Value) : Str → Option Value := fun y =>
  if y = Str.ofString "box" then some (.ref bx) else if y = Str.ofString "space" then some (.ref x) else if y = Str.ofString "top" then some (.int top tt) else if y = Str.ofString "told" then some (.ref DT) else if y = Str.ofString "out" then some (.ref DO) else u y
theorem turnFrm_of {bx x DT DO : Addr} {top : Int} {tt : Tok} {m : Str → Option Value} (h1 : m (Str.ofString "box") = some (.ref bx)) (h2 : m (Str.ofString "space") = some (.ref x)) (h4 : m (Str.ofString "top") = some (.int top tt)) (h5 : m (Str.ofString "told") = some (.ref DT)) (h6 : m (Str.ofString "out") = some (.ref DO)) : m = turnFrm bx x DT DO top tt m := by
  funext y
  unfold turnFrm
  split
  · rename_i e; rw [e]; exact h1
  split
  · rename_i e; rw [e]; exact h2
  split
  · rename_i e; rw [e]; exact h4
  split
  · rename_i e; rw [e]; exact h5
  split
  · rename_i e; rw [e]; exact h6
  rfl
/-- what a turn of the law finds -/
structure TurnSt (w : World) (bx x dx d D1 cA cB : Addr) (ws : List Value) (nD : Nat) (es0 : List DictEntry) (top : Int) (i : Nat) (m : Str → Option Value) (nx : Led)
    (es : List DictEntry) (ne : Nat) (so : Obj) (kvs : List (Int × Value)) (k : Int) (t tt : Tok) (c2 c1 : Obj) (tl : Led) (ak DT DO : Addr) (vk vT vO : List Value) (nk nT nO : Nat) (told out : List Int) (acked : List Pr) (u : Str → Option Value) : Prop where
  nx : nx = (dx, W.dictOf es ne) :: (d, so) :: (bx, W.listOf #[.ref D1, .int k t] 0) :: (cA, c2) :: (cB, c1) :: (tl ++ [(x, instObj 230 dx), (D1, W.listOf ws.toArray nD)])
  off : OwnOff tl [dx, d, bx, cA, cB, x, D1]
  cell2 : ∃ v, c2.data = .cell v
  cell1 : ∃ v, c1.data = .cell v
  dict : SpDict es0 es (.ref ak)
  isD : so.IsDictOf (intK w) kvs
  keys : kvs.map (·.1) = out
  hO : (DO, W.listOf vO.toArray nO) ∈ tl
  iO : IntsAre vO out
  hT : (DT, W.listOf vT.toArray nT) ∈ tl
  iT : IntsAre vT told
  hA : (ak, W.listOf vk.toArray nk) ∈ tl ++ [(x, instObj 230 dx), (D1, W.listOf ws.toArray nD)]
  dA : DatAll (tl ++ [(x, instObj 230 dx), (D1, W.listOf ws.toArray nD)]) vk (acked.map prD)
  k0 : 0 ≤ k
  k1 : k ≤ 1 + i
  law : LawInv top i told out acked
  fr : m = turnFrm bx x DT DO top tt u
def TurnJ (w : World) (bx x dx d D1 cA cB : Addr) (ws : List Value) (nD : Nat) (es0 : List DictEntry) (top : Int) (i : Nat) (m : Str → Option Value) (nx : Led) : Prop :=
  ∃ es ne so kvs k t tt c2 c1 tl ak DT DO vk vT vO nk nT nO told out acked u, TurnSt w bx x dx d D1 cA cB ws nD es0 top i m nx es ne so kvs k t tt c2 c1 tl ak DT DO vk vT vO nk nT nO told out acked u
end
section
set_option maxRecDepth 100000 in
set_option maxHeartbeats 16000000 in
def pk4 : {P : Prop // Hide P → pk3.1} := by
  refine' ⟨_, fun hh0 => ?kk⟩
  case kk =>
    w_top off
    intro w
    set_option tactic.hygienic false in intros
    with_unfolding_all refine' For_invVF F20 ?k1_WL4 ?k2_WL4 ?_ (hE := ?hE_WL4)
    case hE_WL4 => subst hL1; dsimp only [ek]; with_unfolding_all passes_own
    case k1_WL4 => exact rfl
    case k2_WL4 => exact rfl
    walk1
    refine' kdl_iter (vs := vsO) (nn := 0) (news := (dx, W.dictOf es ne) :: (d, od) :: base) (SentJ w bx x dx d DT DO many top es base (outs top)) ?j1_WL4 ?j2_WL4 ?j3_WL4 ?j4_WL4 ?start_WL4 ?turn_WL4 ?done_WL4
    case j1_WL4 => rfl
    case j2_WL4 => exact .tail _ (.tail _ hO)
    case j3_WL4 => exact F20
    case j4_WL4 => exact N21
    case start_WL4 => exact ⟨es, ne, od, [], [], _, _, _, rfl, off_nil, ⟨fun _ _ => rfl, ⟨_, gT⟩, rfl⟩, hid, rfl, lawFrm_of rfl rfl rfl rfl rfl rfl⟩
    case turn_WL4 =>
      rintro i v m1 nx1 h5 tk5 own hv hoff1 hml ⟨es1, ne1, so1, kvs1, tl1, u1, tm, tt, rfl, hoff2, hS, hD, hK, rfl⟩ F5 N5
      have hi' : i < (outs top).length := by rw [← hIO.length]; exact (List.getElem?_eq_some_iff.mp hv).1
      obtain ⟨tv, hx2⟩ := hIO.get i _ (List.getElem?_eq_getElem hi')
      obtain rfl : v = .int (outs top)[i] tv := by rw [hx2] at hv; exact (Option.some.inj hv).symm
      have hnew : (outs top)[i] ∉ (outs top).take i := by
        have hnd : (outs top).Nodup := by
          unfold outs
          simp
          omega
        intro hm
        obtain ⟨j, hj, e⟩ := List.getElem_of_mem hm
        rw [List.getElem_take] at e
        rw [List.length_take] at hj
        exact List.pairwise_iff_getElem.mp hnd j i (by omega) hi' (by omega) e
      have hstep : (outs top).take (i + 1) = (outs top).take i ++ [(outs top)[i]] := take_step hi'
      have hkl : kvs1.length ≤ 4 := by
        have := congrArg List.length hK
        rw [List.length_map, List.length_take] at this
        have : (outs top).length = 4 := rfl
        omega
      generalize (outs top)[i] = one at *
      rw [List.cons_append, List.cons_append] at N5
      unfold lawFrm at F5
      have hgS := (hS.same (Str.ofString "sent") (by decide)).trans gS
      obtain ⟨lv, hgT⟩ := hS.time
      have hgM := (hS.same (Str.ofString "on_sent") (by decide)).trans gM.1
      have hx5 : (x, instObj 230 dx) ∈ (dx, W.dictOf es1 ne1) :: (d, so1) :: (tl1 ++ base ++ own) := .tail _ (.tail _ (List.mem_append_left _ (List.mem_append_right _ hx)))
      repeat ((fail_if_success (with_reducible show wpAny _ _ (call (Value.ref _) _) _ _ _)); walk1)
      rename_i TP hv1 lTP LP hv2 F6 N6 lLP
      have aTP := ktn_ltOf lTP.2.2
      have aLP := ktn_ltOf lLP.2.2.2
      have N7 := regroup2 N6
      have hoff7 : OwnOff ([(LP, W.listOf #[Value.ref TP] 0), (TP, ({ cls := .type "tuple", data := .seq #[.str (Str.ofString "ping") (tk5 + 1 + 1 + 1)] } : Obj))] ++ (tl1 ++ base ++ own)) [dx, d] := by
        intro q hq b hb
        have hb' : b = dx ∨ b = d := by
          rcases List.mem_cons.mp hb with e | hb
          · exact .inl e
          · exact .inr (List.mem_singleton.mp hb)
        rcases List.mem_append.mp hq with hq | hq
        · rcases List.mem_cons.mp hq with rfl | hq
          · rcases hb' with e | e
            · rw [e]; exact Nat.ne_of_gt lLP.2.1
            · rw [e]; exact Nat.ne_of_gt lLP.2.2.1
          · obtain rfl := List.mem_singleton.mp hq
            rcases hb' with e | e
            · rw [e]; exact Nat.ne_of_gt lTP.1
            · rw [e]; exact Nat.ne_of_gt lTP.2.1
        · rcases List.mem_append.mp hq with hq | hq
          · rcases List.mem_append.mp hq with hq | hq
            · refine hoff2 q hq b ?_
              rcases hb' with e | e
              · rw [e]; exact .head _
              · rw [e]; exact .tail _ (.head _)
            · rcases hb' with e | e
              · rw [e]; exact (hoffB q hq).1
              · rw [e]; exact (hoffB q hq).2
          · refine hoff1 q hq b ?_
            rcases hb' with e | e
            · rw [e]; exact .head _
            · rw [e]; exact .tail _ (.head _)
      k_dflt refine' sent_does (ta := TP) (lv := lv) (kvs := kvs1) ?uB_WL4 ?uF_WL4 ?uX_WL4 ?uN_WL4 ?uT_WL4 ?uk_WL4 ?u1_WL4 ?u2_WL4 ?v1_WL4 ?v2_WL4 ?v3_WL4 ?v4_WL4 ?v5_WL4 ?v6_WL4 ?v7_WL4 ?v8_WL4 ?v9_WL4 ?w1_WL4 ?w2_WL4 ?w3_WL4 ?_
      case uB_WL4 => exact K0
      case uF_WL4 => exact F6
      case uX_WL4 => exact KX
      case uN_WL4 => exact N7
      case uT_WL4 => exact T
      case uk_WL4 => exact rfl
      case u1_WL4 => decide
      case u2_WL4 => decide
      case v1_WL4 => exact List.mem_append_right _ (List.mem_append_left _ (List.mem_append_right _ hx))
      case v2_WL4 => exact hD
      case v3_WL4 => exact hgS
      case v4_WL4 => exact hgT
      case v5_WL4 => exact .head _
      case v6_WL4 => exact ⟨_, _, .tail _ (.head _)⟩
      case v7_WL4 => exact Nat.ne_of_lt ld.2.1
      case v8_WL4 => exact hoff7
      case v9_WL4 => exact lod
      case w1_WL4 => rw [hS.len, gL]; decide
      case w2_WL4 => omega
      case w3_WL4 => exact valueAt_new (by rw [hK]; exact hnew)
      intro r7 es7 ne7 so7 tl7 v7 lv7 h8 tk8 F8 N8 off8 hs8 ht8 hl8 hD8
      dsimp only
      iterate 2 walk1
      rename Fr _ _ _ _ => F9
      rename News _ _ _ _ => N9
      refine ⟨_, _, _, _, (dx, W.dictOf es7 ne7) :: (d, so7) :: ((tl7 ++ ([(LP, W.listOf #[Value.ref TP] 0), (TP, ({ cls := .type "tuple", data := .seq #[.str (Str.ofString "ping") (tk5 + 1 + 1 + 1)] } : Obj))] ++ tl1)) ++ base), rfl, F9, N9, ?_, ?_, ?_, ?_, es7, ne7, so7, _, _, _, _, _, rfl, ?_, ⟨fun n hn => (hs8 n hn).trans (hS.same n hn), ⟨_, ht8⟩, hl8.trans hS.len⟩, hD8, ?_, lawFrm_of rfl rfl rfl rfl rfl rfl⟩
      · intro q hq
        rcases List.mem_cons.mp hq with rfl | hq
        · exact .head _
        rcases List.mem_cons.mp hq with rfl | hq
        · exact .tail _ (.head _)
        refine .tail _ (.tail _ ?_)
        rcases List.mem_append.mp hq with hq | hq
        · rcases List.mem_append.mp hq with hq | hq
          · exact List.mem_append_left _ hq
          · refine List.mem_append_right _ ?_
            rcases List.mem_append.mp hq with hq | hq
            · exact List.mem_append_left _ hq
            · exact List.mem_append_right _ (List.mem_append_left _ (List.mem_append_left _ hq))
        · exact List.mem_append_right _ (List.mem_append_right _ (List.mem_append_left _ (List.mem_append_right _ hq)))
      · exact fun q hq => .tail _ (.tail _ (List.mem_append_right _ (List.mem_append_right _ (List.mem_append_right _ hq))))
      · intro q hq b hb
        obtain ⟨y, hy, rfl⟩ := List.mem_map.mp hb
        rcases List.mem_cons.mp hy with rfl | hy
        · exact hoff1 q hq _ (.head _)
        rcases List.mem_cons.mp hy with rfl | hy
        · exact hoff1 q hq _ (.tail _ (.head _))
        rcases List.mem_append.mp hy with hy | hy
        · rcases List.mem_append.mp hy with hy | hy
          · exact (off8 y hy q.1 (.tail _ (.tail _ (List.mem_map.mpr ⟨q, List.mem_append_right _ (List.mem_append_right _ hq), rfl⟩)))).symm
          rcases List.mem_append.mp hy with hy | hy
          · rcases List.mem_cons.mp hy with rfl | hy
            · exact Nat.ne_of_lt (aLP q (List.mem_append_right _ hq))
            · obtain rfl := List.mem_singleton.mp hy
              exact Nat.ne_of_lt (aTP q (List.mem_append_right _ hq))
          · exact hoff1 q hq _ (.tail _ (.tail _ (List.mem_map.mpr ⟨y, List.mem_append_left _ hy, rfl⟩)))
        · exact hoff1 q hq _ (.tail _ (.tail _ (List.mem_map.mpr ⟨y, List.mem_append_right _ hy, rfl⟩)))
      · exact .tail _ (.tail _ (List.mem_append_right _ hO))
      · intro q hq b hb
        have hb' : b = dx ∨ b = d ∨ ∃ y ∈ base, y.1 = b := by
          rcases List.mem_cons.mp hb with e | hb
          · exact .inl e
          rcases List.mem_cons.mp hb with e | hb
          · exact .inr (.inl e)
          · obtain ⟨y, hy, e⟩ := List.mem_map.mp hb
            exact .inr (.inr ⟨y, hy, e⟩)
        rcases List.mem_append.mp hq with hq | hq
        · refine off8 q hq b ?_
          rcases hb' with e | e | ⟨y, hy, rfl⟩
          · rw [e]; exact .head _
          · rw [e]; exact .tail _ (.head _)
          · exact .tail _ (.tail _ (List.mem_map.mpr ⟨y, List.mem_append_right _ (List.mem_append_left _ (List.mem_append_right _ hy)), rfl⟩))
        rcases List.mem_append.mp hq with hq | hq
        · rcases List.mem_cons.mp hq with rfl | hq
          · rcases hb' with e | e | ⟨y, hy, rfl⟩
            · rw [e]; exact Nat.ne_of_gt lLP.2.1
            · rw [e]; exact Nat.ne_of_gt lLP.2.2.1
            · exact Nat.ne_of_gt (aLP y (List.mem_append_left _ (List.mem_append_right _ hy)))
          · obtain rfl := List.mem_singleton.mp hq
            rcases hb' with e | e | ⟨y, hy, rfl⟩
            · rw [e]; exact Nat.ne_of_gt lTP.1
            · rw [e]; exact Nat.ne_of_gt lTP.2.1
            · exact Nat.ne_of_gt (aTP y (List.mem_append_left _ (List.mem_append_right _ hy)))
        · exact hoff2 q hq b hb
      · rw [hstep, List.map_append, hK]
        rfl
    case done_WL4 =>
      rintro m1 nx1 h5 tk5 ⟨es1, ne1, so1, kvs1, tl1, u1, tm, tt, rfl, hoff2, hS, hD, hK, rfl⟩ F5 N5
      rw [show vsO.length = 4 from hIO.length] at hK
      unfold lawFrm at F5
      have hx0 := hx
      rw [← hbase] at N5 hoff2
      simp only [List.map_cons] at hoff2
      have N6 := regroupT N5
      clear N5
      dsimp only
      repeat ((fail_if_success (with_reducible show wpAny _ _ (exec (Stmt.For _ _ _ _ _ _) _) _ _ _)); walk1)
      with_unfolding_all refine' For_invVF F5 ?k1_WL4 ?k2_WL4 ?_ (hE := ?hE_WL4)
      case hE_WL4 => subst hL1; dsimp only [ek]; with_unfolding_all passes_own
      case k1_WL4 => exact rfl
      case k2_WL4 => exact rfl
      repeat ((fail_if_success (with_reducible show wpAny _ _ (pyIter _) _ _ _)); walk1)
      rename Fr _ _ _ _ => F7
      rename News _ _ _ _ => N7
      have hoffT : OwnOff (tl1 ++ (DO, W.listOf vsO.toArray 0) :: (DT, LCg.lst ysT) :: (DA, LCg.lst ysA) :: tl) [dx, d, bx, L1 + 1 + 1, L1 + 1, x, D1] := by
        refine off_app (fun q hq => (ne_consR (hoff2 q hq _ (.head _)) (ne_consR (hoff2 q hq _ (.tail _ (.head _))) (ne_consR (hoff2 q hq _ (.tail _ (.tail _ (.tail _ (.tail _ (.tail _ (.tail _ (.head _)))))))) (ne_consR (hoff2 q hq _ (.tail _ (.tail _ (.tail _ (.tail _ (.tail _ (.tail _ (.tail _ (.tail _ (.head _)))))))))) (ne_consR (hoff2 q hq _ (.tail _ (.tail _ (.tail _ (.tail _ (.tail _ (.tail _ (.tail _ (.tail _ (.tail _ (.head _))))))))))) (ne_consR (hoff2 q hq _ (.tail _ (.tail _ (.tail _ (.tail _ (.tail _ (.head _))))))) (ne_consR (hoff2 q hq _ (.tail _ (.tail _ (.tail _ (.tail _ (.tail _ (.tail _ (.tail _ (.head _))))))))) ne_nilR)))))))) (off_consL (ne_consR (Nat.ne_of_gt lDO.2.1) (ne_consR (Nat.ne_of_gt lDO.2.2.2.1) (ne_consR (Nat.ne_of_gt lDO.2.2.2.2.2.1) (ne_consR (Nat.ne_of_gt lDO.2.2.2.2.2.2.2.1) (ne_consR (Nat.ne_of_gt lDO.2.2.2.2.2.2.2.2.1) (ne_consR (Nat.ne_of_gt lDO.2.2.2.2.1) (ne_consR (Nat.ne_of_gt lDO.2.2.2.2.2.2.1) ne_nilR))))))) (off_consL (ne_consR ((off19.1).symm) (ne_consR ((off19.2.2.1).symm) (ne_consR ((off19.2.2.2.2.1).symm) (ne_consR ((off19.2.2.2.2.2.2.1).symm) (ne_consR ((off19.2.2.2.2.2.2.2.1).symm) (ne_consR ((off19.2.2.2.1).symm) (ne_consR ((off19.2.2.2.2.2.1).symm) ne_nilR))))))) (off_consL (ne_consR (lDA.1) (ne_consR (lDA.2.1) (ne_consR (lDA.2.2.2.1) (ne_consR (lDA.2.2.2.2.2.1) (ne_consR (lDA.2.2.2.2.2.2) (ne_consR (lDA.2.2.1) (ne_consR (lDA.2.2.2.2.1) ne_nilR))))))) (fun q hq => (ne_consR (hoff q hq _ (.tail _ (.tail _ (.tail _ (.tail _ (.tail _ (.tail _ (.head _)))))))) (ne_consR (hoff q hq _ (.tail _ (.tail _ (.tail _ (.tail _ (.head _)))))) (ne_consR (hoff q hq _ (.tail _ (.tail _ (.tail _ (.tail _ (.tail _ (.tail _ (.tail _ (.head _))))))))) (ne_consR (hoff q hq _ (.tail _ (.tail _ (.tail _ (.tail _ (.tail _ (.tail _ (.tail _ (.tail _ (.tail _ (.tail _ (.head _)))))))))))) (ne_consR (hoff q hq _ (.tail _ (.tail _ (.tail _ (.tail _ (.tail _ (.tail _ (.tail _ (.tail _ (.tail _ (.tail _ (.tail _ (.head _))))))))))))) (ne_consR (hoff q hq _ (.tail _ (.tail _ (.tail _ (.tail _ (.tail _ (.head _))))))) (ne_consR (hoff q hq _ (.tail _ (.tail _ (.tail _ (.tail _ (.tail _ (.tail _ (.tail _ (.tail _ (.head _)))))))))) ne_nilR)))))))))))
      have hS1 : getL (Str.ofString "sent") es1 = some (some (.ref d)) := (hS.same _ (by decide)).trans gS
      have hS2 : getL (Str.ofString "acked") es1 = some (some (.ref DA)) := (hS.same _ (by decide)).trans gA
      have hS3 : getL (Str.ofString "next_number") es1 = some (some (.int (top + 1) tn)) := (hS.same _ (by decide)).trans gN
      have hS4 : getL (Str.ofString "acked_by") es1 = some none := (hS.same _ (by decide)).trans gM.2.1
      have hS5 : getL (Str.ofString "take") es1 = some none := (hS.same _ (by decide)).trans gM.2.2.1
      have hS6 : getL (Str.ofString "note_ranges") es1 = some none := (hS.same _ (by decide)).trans gM.2.2.2
      have hS7 : es1.length = 17 := hS.len.trans gL
      have hws : ws.length = (ns.take 8).length := hI8.length
      have hbd : ∃ md sd, od = od ∧ md = d ∧ (d == sysModules) = false ∧ sd = d := ⟨d, d, rfl, rfl, lod, rfl⟩
      have hord : (@Ne Nat dx d) ∧ (@Ne Nat dx bx) ∧ (@Ne Nat dx (L1 + 1 + 1)) ∧ (@Ne Nat dx (L1 + 1)) ∧ (@Ne Nat dx x) ∧ (@Ne Nat dx D1) ∧ (@Ne Nat d bx) ∧ (@Ne Nat d (L1 + 1 + 1)) ∧ (@Ne Nat d (L1 + 1)) ∧ (@Ne Nat d x) ∧ (@Ne Nat d D1) ∧ (@Ne Nat bx (L1 + 1 + 1)) ∧ (@Ne Nat bx (L1 + 1)) ∧ (@Ne Nat bx x) ∧ (@Ne Nat bx D1) ∧ (@Ne Nat (L1 + 1 + 1) x) ∧ (@Ne Nat (L1 + 1 + 1) D1) ∧ (@Ne Nat (L1 + 1) x) ∧ (@Ne Nat (L1 + 1) D1) := by
        exact ⟨Nat.ne_of_lt ld.2.1, Nat.ne_of_gt ldx.1, Nat.ne_of_gt ldx.2.2.2.1, Nat.ne_of_gt ldx.2.2.2.2, Nat.ne_of_lt lx, Nat.ne_of_gt ldx.2.1, Nat.ne_of_gt ld.2.2.1, Nat.ne_of_gt ld.2.2.2.2.2.1, Nat.ne_of_gt ld.2.2.2.2.2.2, Nat.ne_of_gt ld.1, Nat.ne_of_gt ld.2.2.2.1, Nat.ne_of_gt lbx.2.2.1, Nat.ne_of_gt lbx.2.2.2, Nat.ne_of_lt (Nat.lt_trans ldx.1 lx), Nat.ne_of_gt lbx.1, Nat.ne_of_lt (Nat.lt_trans ldx.2.2.2.1 lx), Nat.ne_of_lt lD1.2.1, Nat.ne_of_lt (Nat.lt_trans ldx.2.2.2.2 lx), Nat.ne_of_lt lD1.2.2⟩
      refine' turnsRange (n := 3) (TurnJ w bx x dx d D1 (L1 + 1 + 1) (L1 + 1) ws c1n es1 top) ?j1_WL4 ?j2_WL4 ?j3_WL4 ?j4_WL4 ?j5_WL4 ?j6_WL4 ?start_WL4 ?turn_WL4 ?done_WL4
      case j1_WL4 => rfl
      case j2_WL4 => assumption
      case j3_WL4 => decide
      case j4_WL4 => decide
      case j5_WL4 => exact F7
      case j6_WL4 => exact N7
      case start_WL4 =>
        exact ⟨es1, ne1, so1, kvs1, 0 + 1, t0, _, c2o, c1o, _, DA, DT, DO, ysA, ysT, vsO, _, _, 0, told0 many, outs top, acked0 many, _,
          { nx := rfl, off := hoffT, cell2 := ⟨_, left⟩, cell1 := ⟨_, right⟩, dict := ⟨hS2, fun _ _ => rfl, rfl⟩, isD := hD, keys := hK.trans rfl, hO := List.mem_append_right _ (.head _), iO := hIO, hT := List.mem_append_right _ (.tail _ (.head _)), iT := hY2, hA := List.mem_append_left _ (List.mem_append_right _ (.tail _ (.tail _ (.head _)))), dA := hY.mono fun q hq => List.mem_append_left _ (List.mem_append_right _ (.tail _ (.tail _ (.tail _ hq)))), k0 := by decide, k1 := by decide, law := law0 (by omega), fr := turnFrm_of rfl rfl rfl rfl rfl }⟩
      case turn_WL4 =>
        clear hoff2 hoff hoffB hbase hO hIO hT hA hx hx0 N7 F7 hS hD hK hoffT lDA off19 off14 hY hY2 N21 F20 lTQ lT3 la0 la1 la2 lDO gS gA gN gT gM gL
        rintro i9 tI m9 nx9 h9 tk9 own hi3 hoff1 hsq ⟨es9, ne9, so9, kvs9, k9, t9, tt9, c29, c19, tl9, ak9, DT9, DO9, vk9, vT9, vO9, nk9, nT9, nO9, told9, out9, acked9, u9, S⟩ F5 N5
        rename_i zzst4_1 zzst4_2 zzst4_3 zzst4_4 zzst4_5 zzst4_6 zzst4_7 zzst4_8 zzst4_9 zzst4_10
        revert w s0 s1 mg mb G fa oo pm doc hg KX T B w11 w11o M w10 w9 ns sc scs hL hI h1 tk1 c2o c1o qk ek left right K0 L1 hL1 D2 ws hq1 hI8 hC8 hL8 lD2 D1 c1n hq2 lD1 bx hq3 lbx x dx hq4 ldx lx g2 L2 hq5 tk2 hq6 hq7 d hq8 od lod hid ld hq9 hq10 a2 hq11 hq12 tk3 hq13 hq14 a1 hq15 hq16 tk4 hq17 hq18 hq19 hq20 hq21 hq22 hq23 a0 hq24 hq25 zzst4_1 hq26 T3 hq27 hq28 hq29 hq30 zzst1_1 r u0 t0 h11 tk11 hr0 hr1 zzst1_2 zzst3_1 zzst1_3 zzst1_4 many hM top hTop zzst2_3 zzst2_4 zzst2_5 zzst2_6 zzst2_7 zzst2_8 zzst2_9 hmany zzst3_2 ysA tl DA h14 tk14 es0 tn h16 es ne zzst3_3 zzst3_4 zzst3_5 zzst3_6 zzst3_7 zzst3_8 zzst3_9 g ysT DT h19 tk19 DO hu1 TQ hu2 hu3 hu4 hu5 tk vsO base h5 tk5 es1 ne1 so1 kvs1 tl1 u1 tm tt zzst4_2 zzst4_3 zzst4_4 zzst4_5 zzst4_6 zzst4_7 zzst4_8 zzst4_9 zzst4_10 hS1 hS2 hS3 hS4 hS5 hS6 hS7 hws hbd hord i9 tI m9 nx9 h9 tk9 own hi3 hoff1 hsq es9 ne9 so9 kvs9 k9 t9 tt9 c29 c19 tl9 ak9 DT9 DO9 vk9 vT9 vO9 nk9 nT9 nO9 told9 out9 acked9 u9 S F5 N5
        exact hh0.out
      case done_WL4 =>
        rintro m1 nx1 h5 tk5 ⟨es9, ne9, so9, kvs9, k9, t9, tt9, c29, c19, tl9, ak9, DT9, DO9, vk9, vT9, vO9, nk9, nT9, nO9, told9, out9, acked9, u9, S⟩ F5 N5
        have F6 := F5
        rw [S.fr] at F6
        unfold turnFrm at F6
        clear F5
        dsimp only
        rename_i zzst5_1 zzst5_2 zzst5_3 zzst5_4 zzst5_5 zzst5_6 zzst5_7 zzst5_8 zzst5_9 zzst5_10 zzst5_11 zzst5_12
        revert w s0 s1 mg mb G fa oo pm doc hg KX T B w11 w11o M w10 w9 ns sc scs hL hI h1 tk1 c2o c1o qk ek left right K0 L1 hL1 D2 ws hq1 hI8 hC8 hL8 lD2 D1 c1n hq2 lD1 bx hq3 lbx x dx hq4 ldx lx g2 L2 hq5 tk2 hq6 hq7 d hq8 od lod hid ld hq9 hq10 a2 hq11 la2 hq12 tk3 hq13 hq14 a1 hq15 la1 hq16 tk4 hq17 hq18 hq19 hq20 hq21 hq22 hq23 a0 hq24 la0 hq25 zzst5_1 hq26 T3 hq27 lT3 hq28 hq29 hq30 zzst1_1 r u0 t0 h11 tk11 hr0 hr1 zzst1_2 zzst3_1 zzst1_3 zzst1_4 many hM top hTop zzst2_3 zzst2_4 zzst2_5 zzst2_6 zzst2_7 zzst2_8 zzst2_9 hmany zzst3_2 ysA tl hY DA h14 tk14 off14 hoff lDA es0 tn h16 es ne gS gA gN gT gM gL zzst3_3 zzst3_4 zzst3_5 zzst3_6 zzst3_7 zzst3_8 zzst3_9 g ysT hY2 DT h19 tk19 off19 DO hu1 lDO TQ hu2 lTQ hu3 hu4 hu5 F20 tk vsO base hbase N21 hoffB hO hIO hT hA hx zzst5_2 zzst5_3 es1 ne1 so1 kvs1 tl1 u1 tm tt hS hD hK zzst5_4 hx0 hoff2 zzst5_5 zzst5_6 zzst5_7 zzst5_8 zzst5_9 zzst5_10 zzst5_11 F7 N7 zzst5_12 hoffT hS1 hS2 hS3 hS4 hS5 hS6 hS7 hws hbd hord m1 nx1 h5 tk5 es9 ne9 so9 kvs9 k9 t9 tt9 c29 c19 tl9 ak9 DT9 DO9 vk9 vT9 vO9 nk9 nT9 nO9 told9 out9 acked9 u9 S N5 F6
        set_option tactic.hygienic false in intros
        iterate 3 walk1
        dsimp only
        k_steps
end
section
local macro_rules | `(tactic| omega) => `(tactic| lia)
section
theorem fillKL5 : PySem.Challenge.rw_rg0248_01 = PySem.Challenge.rw_rg0248_01 ∧ hd.heap_39 = hd.heap_39 := by k_fill; exact ⟨rfl, rfl⟩
theorem swap2 {h₀ h : Heap} {L : Addr} {q1 q2 : Addr × Obj} {r : Led} (N : News h₀ L h (q1 :: q2 :: r)) : News h₀ L h (q2 :: q1 :: r) :=
  news_sub N fun p hp => by
    simp only [List.mem_cons] at hp ⊢
    rcases hp with h | h | h <;> simp [h]
theorem regroupM {q1 q2 q3 q4 q5 : Addr × Obj} {r tl : Led} : ∀ p ∈ tl ++ (q2 :: q3 :: q4 :: q5 :: r), p ∈ q1 :: q2 :: q3 :: q4 :: q5 :: (r ++ tl) := by
  intro p hp
  simp only [List.mem_append, List.mem_cons] at hp ⊢
  rcases hp with h | h | h | h | h | h <;> simp [h]
theorem regroupN {h₀ h : Heap} {L : Addr} {q1 q2 q3 q4 q5 : Addr × Obj} {r tl : Led} (N : News h₀ L h (q1 :: (tl ++ (q2 :: q3 :: q4 :: q5 :: r)))) : News h₀ L h (q1 :: q2 :: q3 :: q4 :: q5 :: (r ++ tl)) :=
  news_sub N fun p hp => by
    simp only [List.mem_append, List.mem_cons] at hp ⊢
    rcases hp with h | h | h | h | h | h | h <;> simp [h]
end
section
theorem fillKL7 : PySem.Challenge.rw_rg0248_01 = PySem.Challenge.rw_rg0248_01 ∧ hd.heap_39 = hd.heap_39 := by k_fill; exact ⟨rfl, rfl⟩
theorem more_step {rs : List Pr} {i : Nat} (hi : i < rs.length) : moreOf (rs.take (i + 1)) = moreOf (rs.take i) ++ rng rs[i] := by
  unfold moreOf
  rw [take_step hi, List.flatMap_append]
  simp
theorem more_le {rs : List Pr} {i : Nat} (hi : i < rs.length) : (moreOf (rs.take i)).length + (rng rs[i]).length ≤ (moreOf rs).length := by
  rw [← List.length_append, ← more_step hi]
  have h : moreOf rs = moreOf (rs.take (i + 1)) ++ moreOf (rs.drop (i + 1)) := by
    unfold moreOf
    rw [← List.flatMap_append, List.take_append_drop]
  rw [h, List.length_append]
  omega
theorem rng_upTo (p : Pr) : rng p = upTo p.1 (p.2 + 1 - p.1).toNat := rfl
theorem any_mem {l : List Int} {k : Int} : (l.any fun z => z == k) = decide (k ∈ l) := by
  rw [Bool.eq_iff_iff]
  simp
end
section
theorem fillKL8 : PySem.Challenge.rw_rg0248_01 = PySem.Challenge.rw_rg0248_01 ∧ hd.heap_39 = hd.heap_39 := by k_fill; exact ⟨rfl, rfl⟩
theorem int_mono {M : Model} {A : Around} {E : Value → Shared → Prop} {s : Shared} {h₀ : Heap} {L : Addr} {m : Str → Option Value} {news : Led} {c : Sem Value} {k : Int} {Q : Value → Shared → Prop} (_F : Fr h₀ L s.heap m) (_N : News h₀ L s.heap news)
    (h1 : wpAny M A c (fun v s' => ∃ t h' tk', v = Value.int k t ∧ s' = { s with heap := h', toks := tk' } ∧ Fr h₀ L h' m ∧ News h₀ L h' news) E s)
    (h2 : ∀ t h' tk', Fr h₀ L h' m → News h₀ L h' news → Q (.int k t) { s with heap := h', toks := tk' }) : wpAny M A c Q E s :=
  wpAny_mono h1 (fun _ _ ⟨t, h', tk', e1, e2, F, N⟩ => by subst e1; subst e2; exact h2 t h' tk' F N) fun _ _ e => e
end
section
theorem fillKL9 : PySem.Challenge.rw_rg0248_01 = PySem.Challenge.rw_rg0248_01 ∧ hd.heap_39 = hd.heap_39 := by k_fill; exact ⟨rfl, rfl⟩
theorem regroup9 {h₀ h : Heap} {L : Addr} {p1 p2 p3 p4 p5 q1 q2 q3 q4 q5 : Addr × Obj} {r : Led} (N : News h₀ L h (p1 :: p2 :: p3 :: p4 :: p5 :: q1 :: q2 :: q3 :: q4 :: q5 :: r)) : News h₀ L h (q1 :: q2 :: q3 :: q4 :: q5 :: ([p1, p2, p3, p4, p5] ++ r)) :=
  news_sub N fun p hp => by
    simp only [List.mem_cons, List.mem_append, List.not_mem_nil, or_false] at hp ⊢
    rcases hp with h | h | h | h | h | (h | h | h | h | h) | h <;> simp [h]
end
section
set_option maxRecDepth 100000 in
set_option maxHeartbeats 16000000 in
def pk5 : {P : Prop // Hide P → pk4.1} := by
  refine' ⟨_, fun hh0 => ?kk⟩
  case kk =>
    w_top off
    intro w
    set_option tactic.hygienic false in intros
    obtain ⟨Snx, Soff, ⟨v2, Sc2⟩, ⟨v1, Sc1⟩, Sdict, SisD, Skeys, ShO, SiO, ShT, SiT, ShA, SdA, Sk0, Sk1, Slaw, Sfr⟩ := S
    have F6 := F5
    have N6 := N5
    subst Snx
    rw [Sfr] at F6
    unfold turnFrm at F6
    simp only [List.cons_append] at N6
    clear F5 N5
    simp only [List.map_cons, List.map_append] at hoff1
    have hoffR : OwnOff (tl9 ++ [(x, instObj 230 dx), (D1, W.listOf ws.toArray c1n)] ++ own) [dx, d, bx, L1 + 1 + 1, L1 + 1] := by
      exact off_app (off_app (fun q hq => (ne_consR (Soff q hq _ (.head _)) (ne_consR (Soff q hq _ (.tail _ (.head _))) (ne_consR (Soff q hq _ (.tail _ (.tail _ (.head _)))) (ne_consR (Soff q hq _ (.tail _ (.tail _ (.tail _ (.head _))))) (ne_consR (Soff q hq _ (.tail _ (.tail _ (.tail _ (.tail _ (.head _)))))) ne_nilR)))))) (off_consL (ne_consR (hord.2.2.2.2.1.symm) (ne_consR (hord.2.2.2.2.2.2.2.2.2.1.symm) (ne_consR (hord.2.2.2.2.2.2.2.2.2.2.2.2.2.1.symm) (ne_consR (hord.2.2.2.2.2.2.2.2.2.2.2.2.2.2.2.1.symm) (ne_consR (hord.2.2.2.2.2.2.2.2.2.2.2.2.2.2.2.2.2.1.symm) ne_nilR))))) (off_consL (ne_consR (hord.2.2.2.2.2.1.symm) (ne_consR (hord.2.2.2.2.2.2.2.2.2.2.1.symm) (ne_consR (hord.2.2.2.2.2.2.2.2.2.2.2.2.2.2.1.symm) (ne_consR (hord.2.2.2.2.2.2.2.2.2.2.2.2.2.2.2.2.1.symm) (ne_consR (hord.2.2.2.2.2.2.2.2.2.2.2.2.2.2.2.2.2.2.symm) ne_nilR))))) off_nil))) (fun q hq => (ne_consR (hoff1 q hq _ (.head _)) (ne_consR (hoff1 q hq _ (.tail _ (.head _))) (ne_consR (hoff1 q hq _ (.tail _ (.tail _ (.head _)))) (ne_consR (hoff1 q hq _ (.tail _ (.tail _ (.tail _ (.head _))))) (ne_consR (hoff1 q hq _ (.tail _ (.tail _ (.tail _ (.tail _ (.head _)))))) ne_nilR))))))
    have hRx : (x, instObj 230 dx) ∈ tl9 ++ [(x, instObj 230 dx), (D1, W.listOf ws.toArray c1n)] ++ own := List.mem_append_left _ (List.mem_append_right _ (.head _))
    have hRD : (D1, W.listOf ws.toArray c1n) ∈ tl9 ++ [(x, instObj 230 dx), (D1, W.listOf ws.toArray c1n)] ++ own := List.mem_append_left _ (List.mem_append_right _ (.tail _ (.head _)))
    have hRO := List.mem_append_left own (List.mem_append_left [(x, instObj 230 dx), (D1, W.listOf ws.toArray c1n)] ShO)
    have hRT := List.mem_append_left own (List.mem_append_left [(x, instObj 230 dx), (D1, W.listOf ws.toArray c1n)] ShT)
    have hRA := List.mem_append_left own ShA
    have hRd : DatAll (tl9 ++ [(x, instObj 230 dx), (D1, W.listOf ws.toArray c1n)] ++ own) vk9 (acked9.map prD) := SdA.mono fun q hq => List.mem_append_left _ hq
    generalize hR : tl9 ++ [(x, instObj 230 dx), (D1, W.listOf ws.toArray c1n)] ++ own = R at *
    have hHd : Heads w d bx (L1 + 1 + 1) (L1 + 1) so9 c29 c19 := ⟨⟨_, SisD⟩, ⟨_, Sc2⟩, ⟨_, Sc1⟩⟩
    have ht214 : 214 ≤ top := by omega
    repeat ((fail_if_success (with_reducible show wpAny _ _ (call (Value.ref 241) _) _ _ _)); walk1)
    k_dflt refine' takeU (pre := [_, _]) (ls := ws) (ns := ns.take 8) ?uB_WL5 ?uF_WL5 ?uX_WL5 ?uN_WL5 ?uT_WL5 ?uk_WL5 ?u1_WL5 ?u2_WL5 ?ul_WL5 ?uI_WL5 ?un_WL5 ?uo_WL5 ?v1_WL5 ?v2_WL5 ?v3_WL5 ?v4_WL5 ?_
    case uF_WL5 => exact F6
    case uB_WL5 => exact K0
    case uX_WL5 => exact KX
    case uN_WL5 => exact N6
    case uT_WL5 => exact T
    case uk_WL5 => exact rfl
    case u1_WL5 => decide
    case u2_WL5 => decide
    case ul_WL5 => exact .tail _ (.tail _ (.tail _ (.tail _ hRD)))
    case uI_WL5 => exact hI8
    case un_WL5 => rw [List.length_take]; omega
    case uo_WL5 =>
      intro q hq b hb
      rw [List.mem_singleton.mp hb]
      rcases List.mem_cons.mp hq with rfl | hq
      · exact hord.2.1
      rcases List.mem_cons.mp hq with rfl | hq
      · exact hord.2.2.2.2.2.2.1
      rcases List.mem_cons.mp hq with rfl | hq
      · exact hord.2.2.2.2.2.2.2.2.2.2.2.1.symm
      rcases List.mem_cons.mp hq with rfl | hq
      · exact hord.2.2.2.2.2.2.2.2.2.2.2.2.1.symm
      · exact hoffR q hq bx (.tail _ (.tail _ (.head _)))
    case v1_WL5 => exact Sk0
    case v2_WL5 => omega
    case v3_WL5 => decide
    case v4_WL5 => decide
    intro wh uw t10 h10 tk10 F10 N10 hw0 hw1
    simp only [List.cons_append, List.nil_append] at N10
    clear F6 N6
    dsimp only
    repeat ((fail_if_success (with_reducible show wpAny _ _ (call (Value.ref 255) _) _ _ _)); walk1)
    k_dflt refine' Does.use (ranges_does (which := wh) (top := top) hw0 hw1) ?uB_WL5 ?uF_WL5 ?uX_WL5 ?uN_WL5 ?uT_WL5 ?uk_WL5 ?up_WL5 ?u1_WL5 ?u2_WL5 ?_
    case uB_WL5 => exact K0
    case uF_WL5 => exact F10
    case uX_WL5 => exact KX
    case uN_WL5 => exact N10
    case uT_WL5 => exact T
    case uk_WL5 => exact rfl
    case up_WL5 => exact ⟨_, _, rfl⟩
    case u1_WL5 => decide
    case u2_WL5 => decide
    intro rv tlr h11x tk11x F11 N11 off11 hP11
    have hrow := row_ok ht214 wh.toNat
    have hrbd := rows_bd ht214 (show top ≤ 300 by omega) wh.toNat
    generalize hrs : rangesOf top wh.toNat = rs at *
    simp only [List.cons_append] at N11 hP11
    replace hP11 := pairs_out hHd hP11
    obtain ⟨ra, vr, nr, rfl, hra, hrD⟩ := hP11
    have hRx1 := List.mem_append_left tlr hRx
    have hoffR1 : OwnOff (R ++ tlr) [dx, d, bx, L1 + 1 + 1, L1 + 1] := by
      exact off_app hoffR (fun q hq => (ne_consR (off11 q hq _ (.head _)) (ne_consR (off11 q hq _ (.tail _ (.head _))) (ne_consR (off11 q hq _ (.tail _ (.tail _ (.head _)))) (ne_consR (off11 q hq _ (.tail _ (.tail _ (.tail _ (.head _))))) (ne_consR (off11 q hq _ (.tail _ (.tail _ (.tail _ (.tail _ (.head _)))))) ne_nilR))))))
    have offo1 : OwnOff own (tlr.map (·.1)) := by
      intro q hq b hb
      obtain ⟨y, hy, rfl⟩ := List.mem_map.mp hb
      refine (off11 y hy q.1 ?_).symm
      simp only [List.map_cons, List.mem_cons]
      refine .inr (.inr (.inr (.inr (.inr (List.mem_map.mpr ⟨q, ?_, rfl⟩)))))
      rw [← hR]
      exact List.mem_append_right _ hq
    have hgS9 := (Sdict.other _ (by decide)).trans hS1
    have hgN9 := (Sdict.other _ (by decide)).trans hS3
    have hgA9 := Sdict.acked
    have hgm1 := (Sdict.other _ (by decide)).trans hS4
    have hgm2 := (Sdict.other _ (by decide)).trans hS5
    have hgm3 := (Sdict.other _ (by decide)).trans hS6
    have hx11 : (x, instObj 230 dx) ∈ (dx, W.dictOf es9 ne9) :: (d, so9) :: (bx, W.listOf #[.ref D1, .int (k9 + 1) t10] 0) :: (L1 + 1 + 1, c29) :: (L1 + 1, c19) :: (R ++ tlr) := .tail _ (.tail _ (.tail _ (.tail _ (.tail _ hRx1))))
    clear F10 N10
    dsimp only
    repeat ((fail_if_success (with_reducible show wpAny _ _ (call (Value.ref 164) _) _ _ _)); walk1)
    rename Fr _ _ _ _ => F12
    rename News _ _ _ _ => N12
    have hkl : kvs9.length ≤ 4 := by
      have h1 := congrArg List.length Skeys
      rw [List.length_map] at h1
      have h2 := Slaw.sub.length_le
      simp only [List.length_cons, List.length_nil] at h2
      omega
    k_dflt refine' Does.use (ackedBy_does (kvs := kvs9) (rs := rs) (se := d) ?uL_WL5 ?uK_WL5 lod) ?uB_WL5 ?uF_WL5 ?uX_WL5 ?uN_WL5 ?uT_WL5 ?uk_WL5 ?up_WL5 ?u1_WL5 ?u2_WL5 ?_
    case uL_WL5 => have := hrow.few; omega
    case uK_WL5 => omega
    case uB_WL5 => exact K0
    case uF_WL5 => exact F12
    case uX_WL5 => exact KX
    case uN_WL5 => exact N12
    case uT_WL5 => exact T
    case uk_WL5 => exact rfl
    case up_WL5 => exact ⟨_, rfl, ⟨hx11, .head _, .tail _ (.head _), SisD, hgS9⟩, ra, vr, nr, rfl, .tail _ (.tail _ (.tail _ (.tail _ (.tail _ hra)))), hrD.mono fun q hq => .tail _ (.tail _ (.tail _ (.tail _ (.tail _ hq))))⟩
    case u1_WL5 => decide
    case u2_WL5 => decide
    rintro mv tlm h13 tk13 F13 N13 off13 ⟨ms, hM13, hmp, hms⟩
    simp only [List.cons_append] at N13 hM13
    replace hM13 := ints_out hHd hM13
    obtain ⟨ma, vm, nm, rfl, hma, hmI⟩ := hM13
    have hmlen : ms.length ≤ 4 := by
      have h1 := hmp.length_eq
      have h2 := List.length_filter_le (hasN rs) (kvs9.map (·.1))
      rw [List.length_map] at h2
      omega
    have hoffR2 : OwnOff (R ++ tlr ++ tlm) [dx, d, bx, L1 + 1 + 1, L1 + 1] := by
      exact off_app hoffR1 (fun q hq => (ne_consR (off13 q hq _ (.head _)) (ne_consR (off13 q hq _ (.tail _ (.head _))) (ne_consR (off13 q hq _ (.tail _ (.tail _ (.head _)))) (ne_consR (off13 q hq _ (.tail _ (.tail _ (.tail _ (.head _))))) (ne_consR (off13 q hq _ (.tail _ (.tail _ (.tail _ (.tail _ (.head _)))))) ne_nilR))))))
    have offo2 : OwnOff own ((tlr ++ tlm).map (·.1)) := by
      intro q hq b hb
      obtain ⟨y, hy, rfl⟩ := List.mem_map.mp hb
      rcases List.mem_append.mp hy with hy | hy
      · exact offo1 q hq _ (List.mem_map.mpr ⟨y, hy, rfl⟩)
      refine (off13 y hy q.1 ?_).symm
      simp only [List.map_cons, List.mem_cons]
      refine .inr (.inr (.inr (.inr (.inr (List.mem_map.mpr ⟨q, List.mem_append_left _ ?_, rfl⟩)))))
      rw [← hR]
      exact List.mem_append_right _ hq
    clear F12 N12
    dsimp only
    repeat ((fail_if_success (with_reducible show wpAny _ _ (call (Value.ref 157) _) _ _ _)); walk1)
    rename Fr _ _ _ _ => F14
    rename News _ _ _ _ => N14
    have N15 := swap2 N14
    k_dflt refine' spTake_does (kvs := kvs9) (ms := ms) ?uB_WL5 ?uF_WL5 ?uX_WL5 ?uN_WL5 ?uT_WL5 ?uk_WL5 ?u1_WL5 ?v1_WL5 ?v2_WL5 ?v3_WL5 ?v4_WL5 ?v5_WL5 ?v6_WL5 ?v7_WL5 ?v8_WL5 ?v9_WL5 ?_
    case uB_WL5 => exact K0
    case uF_WL5 => exact F14
    case uX_WL5 => exact KX
    case uN_WL5 => exact N15
    case uT_WL5 => exact T
    case uk_WL5 => exact rfl
    case u1_WL5 => decide
    case v1_WL5 => exact ⟨.tail _ (.tail _ (.tail _ (.tail _ (.tail _ (List.mem_append_left _ hRx1))))), .tail _ (.head _), .head _, SisD, hgS9⟩
    case v2_WL5 => exact .tail _ (.tail _ (.tail _ (.tail _ hma)))
    case v3_WL5 => exact hmI
    case v4_WL5 => omega
    case v5_WL5 => omega
    case v6_WL5 =>
      intro q hq b hb
      rw [List.mem_singleton.mp hb]
      rcases List.mem_cons.mp hq with rfl | hq
      · exact hord.1
      rcases List.mem_cons.mp hq with rfl | hq
      · exact hord.2.2.2.2.2.2.1.symm
      rcases List.mem_cons.mp hq with rfl | hq
      · exact hord.2.2.2.2.2.2.2.1.symm
      rcases List.mem_cons.mp hq with rfl | hq
      · exact hord.2.2.2.2.2.2.2.2.1.symm
      · exact hoffR2 q hq d (.tail _ (.head _))
    case v7_WL5 => exact lod
    case v8_WL5 => exact hord.2.2.2.2.2.2.2.2.2.1.symm
    case v9_WL5 => exact hord.1
    intro r15 so15 h15 tk15 F15 N16 hD15
    have N17 := swap2 N16
    clear N14 N15 N16 F14
    dsimp only
    repeat ((fail_if_success (with_reducible show wpAny _ _ (getMethod _ _ _) _ _ _)); walk1)
    have hx17 : (x, instObj 230 dx) ∈ (dx, W.dictOf es9 ne9) :: (d, so15) :: (bx, W.listOf #[.ref D1, .int (k9 + 1) t10] 0) :: (L1 + 1 + 1, c29) :: (L1 + 1, c19) :: (R ++ tlr ++ tlm) := .tail _ (.tail _ (.tail _ (.tail _ (.tail _ (List.mem_append_left _ hRx1)))))
    have hk15 : (kvs9.filter fun kv => !ms.contains kv.1).map (·.1) = lawOut rs out9 := by
      rw [← keys_out (rs := rs) (out := out9) (ms := ms) (by rw [← Skeys]; exact hmp), ← Skeys, List.filter_map]
      rfl
    have hl15 : (kvs9.filter fun kv => !ms.contains kv.1).length ≤ 4 := Nat.le_trans (List.length_filter_le _ _) hkl
    generalize kvs9.filter (fun kv => !ms.contains kv.1) = kvs15 at hD15 hk15 hl15
    have hlaw := law_turn (least := lawLeast top (lawOut rs out9)) hrow Slaw
    have hleast := least_out ht214 hlaw.sub
    have hal := Canon.len Slaw.canon fun n hn => (Slaw.same n).mp hn
    have htl := Slaw.len
    generalize hle : lawLeast top (lawOut rs out9) = least at *
    repeat ((fail_if_success (with_reducible show wpAny _ _ (call (Value.ref 178) _) _ _ _)); walk1)
    rename Fr _ _ _ _ => F18
    rename News _ _ _ _ => N18
    k_dflt refine' note_does (least := least) (nn := top + 1) (tn := tn) (acc := acked9) (rs := rs) (kvs := kvs15) ?uB_WL5 ?uF_WL5 ?uX_WL5 ?uN_WL5 ?uT_WL5 ?uk_WL5 ?u1_WL5 ?u2_WL5 ?v1_WL5 ?v2_WL5 ?v3_WL5 ?v4_WL5 ?v5_WL5 ?v6_WL5 ?v7_WL5 ?v8_WL5 ?v9_WL5 ?w1_WL5 ?w2_WL5 ?w3_WL5 ?w4_WL5 ?w5_WL5 ?w6_WL5 ?w7_WL5 ?w8_WL5 ?w9_WL5 ?_
    case uB_WL5 => exact K0
    case uF_WL5 => exact F18
    case uX_WL5 => exact KX
    case uN_WL5 => exact N18
    case uT_WL5 => exact T
    case uk_WL5 => exact rfl
    case u1_WL5 => decide
    case u2_WL5 => decide
    case v1_WL5 => exact .tail _ (.tail _ (.tail _ (.tail _ (List.mem_append_left _ hRx1))))
    case v2_WL5 => exact .head _
    case v3_WL5 => exact hD15
    case v4_WL5 => exact hgS9
    case v5_WL5 => exact hgA9
    case v6_WL5 => exact hgN9
    case v7_WL5 => exact .tail _ (.tail _ (.tail _ (.tail _ (List.mem_append_left _ (List.mem_append_left _ hRA)))))
    case v8_WL5 => exact hRd.mono fun q hq => .tail _ (.tail _ (.tail _ (.tail _ (List.mem_append_left _ (List.mem_append_left _ hq)))))
    case v9_WL5 => exact .tail _ (.tail _ (.tail _ (.tail _ (List.mem_append_left _ hra))))
    case w1_WL5 => exact hrD.mono fun q hq => .tail _ (.tail _ (.tail _ (.tail _ (List.mem_append_left _ hq))))
    case w2_WL5 => omega
    case w3_WL5 => have := hrow.few; omega
    case w4_WL5 => rw [Sdict.len, hS7]; decide
    case w5_WL5 => omega
    case w6_WL5 =>
      intro q hq b hb
      rw [List.mem_singleton.mp hb]
      rcases List.mem_cons.mp hq with rfl | hq
      · exact hord.1.symm
      rcases List.mem_cons.mp hq with rfl | hq
      · exact hord.2.1.symm
      rcases List.mem_cons.mp hq with rfl | hq
      · exact hord.2.2.1.symm
      rcases List.mem_cons.mp hq with rfl | hq
      · exact hord.2.2.2.1.symm
      · exact hoffR2 q hq dx (.head _)
    case w7_WL5 => exact lod
    case w8_WL5 =>
      intro e
      rw [e] at hk15
      rw [hleast.1 hk15.symm]
    case w9_WL5 =>
      intro e
      rw [hk15]
      refine hleast.2 fun e2 => e ?_
      rw [e2] at hk15
      exact List.map_eq_nil_iff.mp hk15
    intro r19 es19 ne19 tl19 rv19 h19x tk19x F19 N19 off19x hS19 hP19
    have N20 := regroupN N19
    have hHd2 : Heads w d bx (L1 + 1 + 1) (L1 + 1) so15 c29 c19 := ⟨⟨_, hD15⟩, ⟨_, Sc2⟩, ⟨_, Sc1⟩⟩
    have hP20 := pairs_out hHd2 (hP19.mono (regroupM (q1 := (dx, W.dictOf es19 ne19))))
    obtain ⟨ra19, va19, na19, rfl, hra19, hda19⟩ := hP20
    have hoffR3 : OwnOff (R ++ tlr ++ tlm ++ tl19) [dx, d, bx, L1 + 1 + 1, L1 + 1] := by
      exact off_app hoffR2 (fun q hq => (ne_consR (off19x q hq _ (.head _)) (ne_consR (off19x q hq _ (.tail _ (.head _))) (ne_consR (off19x q hq _ (.tail _ (.tail _ (.head _)))) (ne_consR (off19x q hq _ (.tail _ (.tail _ (.tail _ (.head _))))) (ne_consR (off19x q hq _ (.tail _ (.tail _ (.tail _ (.tail _ (.head _)))))) ne_nilR))))))
    have offo3 : OwnOff own ((tlr ++ tlm ++ tl19).map (·.1)) := by
      intro q hq b hb
      obtain ⟨y, hy, rfl⟩ := List.mem_map.mp hb
      rcases List.mem_append.mp hy with hy | hy
      · exact offo2 q hq _ (List.mem_map.mpr ⟨y, hy, rfl⟩)
      refine (off19x y hy q.1 ?_).symm
      simp only [List.map_cons, List.mem_cons]
      refine .inr (.inr (.inr (.inr (.inr (List.mem_map.mpr ⟨q, List.mem_append_left _ (List.mem_append_left _ ?_), rfl⟩)))))
      rw [← hR]
      exact List.mem_append_right _ hq
    have offt3 : OwnOff (tlr ++ tlm ++ tl19) [x, D1] := by
      intro q hq b hb
      have hbR : b ∈ R.map (·.1) := by
        rw [← hR]
        rcases List.mem_cons.mp hb with e | hb
        · rw [e]; simp
        · rw [List.mem_singleton.mp hb]; simp
      obtain ⟨y, hy, rfl⟩ := List.mem_map.mp hbR
      rcases List.mem_append.mp hq with hq | hq
      · rcases List.mem_append.mp hq with hq | hq
        · exact off11 q hq _ (by simp only [List.map_cons, List.mem_cons]; exact .inr (.inr (.inr (.inr (.inr (List.mem_map.mpr ⟨y, hy, rfl⟩))))))
        · exact off13 q hq _ (by simp only [List.map_cons, List.mem_cons]; exact .inr (.inr (.inr (.inr (.inr (List.mem_map.mpr ⟨y, List.mem_append_left _ hy, rfl⟩))))))
      · exact off19x q hq _ (by simp only [List.map_cons, List.mem_cons]; exact .inr (.inr (.inr (.inr (.inr (List.mem_map.mpr ⟨y, List.mem_append_left _ (List.mem_append_left _ hy), rfl⟩))))))
    have hSd19 : SpDict es1 es19 (.ref ra19) := ⟨hS19.acked, fun n hn => (hS19.other n hn).trans (Sdict.other n hn), hS19.len.trans Sdict.len⟩
    clear N18 F18 N19 hP19 off19x off13 off11 hoffR2 hoffR1 hoffR offo2 offo1 hx17 hx11
    generalize hX : tlr ++ tlm ++ tl19 = X at *
    generalize hR3 : R ++ tlr ++ tlm ++ tl19 = R3 at *
    have hR3' : R3 = R ++ X := by rw [← hR3, ← hX]; simp
    have hRx3 : (x, instObj 230 dx) ∈ R3 := by rw [hR3']; exact List.mem_append_left _ hRx
    have hRO3 : (DO9, W.listOf vO9.toArray nO9) ∈ R3 := by rw [hR3']; exact List.mem_append_left _ hRO
    have hRT3 : (DT9, W.listOf vT9.toArray nT9) ∈ R3 := by rw [hR3']; exact List.mem_append_left _ hRT
    have hra3 : (ra, W.listOf vr.toArray nr) ∈ R3 := by rw [← hR3]; exact List.mem_append_left _ (List.mem_append_left _ hra)
    have hrD3 : DatAll R3 vr (rs.map prD) := hrD.mono fun q hq => by rw [← hR3]; exact List.mem_append_left _ (List.mem_append_left _ hq)
    dsimp only
    repeat ((fail_if_success (with_reducible show wpAny _ _ (eval (Expr.ListComp _ _ _ _) _) _ _ _)); walk1)
    rename Fr _ _ _ _ => F20
    rename News _ _ _ _ => N21
    rename_i zzst6_1 zzst6_2
    revert w s0 s1 mg mb G fa oo pm doc hg KX T B w11 w11o M w10 w9 ns sc scs hL hI h1 tk1 c2o c1o qk ek left right K0 L1 hL1 D2 ws hq1 hI8 hC8 hL8 lD2 D1 c1n hq2 lD1 bx hq3 lbx x dx hq4 ldx lx g2 L2 hq5 tk2 hq6 hq7 d hq8 od lod hid ld hq9 hq10 a2 hq11 hq12 tk3 hq13 hq14 a1 hq15 hq16 tk4 hq17 hq18 hq19 hq20 hq21 hq22 hq23 a0 hq24 hq25 zzst4_1 hq26 T3 hq27 hq28 hq29 hq30 zzst1_1 r u0 t0 h11 tk11 hr0 hr1 zzst1_2 zzst3_1 zzst1_3 zzst1_4 many hM top hTop zzst2_3 zzst2_4 zzst2_5 zzst2_6 zzst2_7 zzst2_8 zzst2_9 hmany zzst3_2 ysA tl DA h14 tk14 es0 tn h16 es ne zzst3_3 zzst3_4 zzst3_5 zzst3_6 zzst3_7 zzst3_8 zzst3_9 g ysT DT h19 tk19 DO hu1 TQ hu2 hu3 hu4 hu5 zzst6_1 vsO base h5 tk5 es1 ne1 so1 kvs1 tl1 u1 tm tt zzst4_2 zzst4_3 zzst4_4 zzst4_5 zzst4_6 zzst4_7 zzst4_8 zzst4_9 zzst4_10 hS1 hS2 hS3 hS4 hS5 hS6 hS7 hws hbd hord i9 tI m9 h9 tk9 own hi3 hsq es9 ne9 so9 kvs9 k9 t9 tt9 c29 c19 tl9 ak9 DT9 DO9 vk9 vT9 vO9 nk9 nT9 nO9 told9 out9 acked9 u9 Soff Sdict SisD Skeys ShO SiO ShT SiT ShA SdA Sk0 Sk1 Slaw Sfr v2 Sc2 v1 Sc1 hoff1 R hR hRx hRD hRO hRT hRA hRd hHd ht214 wh uw t10 h10 tk10 hw0 hw1 tlr h11x tk11x rs hrs hrow hrbd ra vr nr hra hrD hRx1 hgS9 hgN9 hgA9 hgm1 hgm2 hgm3 zzst6_2 tk hkl tlm h13 tk13 ms hmp hms ma vm nm hma hmI hmlen r15 so15 h15 tk15 kvs15 hD15 hk15 hl15 hal htl least hle hlaw hleast r19 es19 ne19 tl19 h19x tk19x F20 hHd2 ra19 va19 na19 hS19 hSd19 X hX offo3 offt3 R3 hR3 N21 hra19 hda19 hoffR3 hR3' hRx3 hRO3 hRT3 hra3 hrD3
    exact hh0.out
end
section
set_option maxRecDepth 100000 in
set_option maxHeartbeats 16000000 in
def pk6 : {P : Prop // Hide P → pk5.1} := by
  refine' ⟨_, fun hh0 => ?kk⟩
  case kk =>
    w_top off
    intro w
    set_option tactic.hygienic false in intros
    k_dflt (refine ListComp_2 F20 (by with_unfolding_all rfl) (by decide) (by rfl) (by decide) (by rfl) (by rfl) (by rfl) (by decide) (by decide) (by intro _; rfl) (by intro _ _; rfl) ?_)
    walk1
    refine ⟨ra, vr.toArray, nr, _, rfl, rfl, F20, N21, .tail _ (.tail _ (.tail _ (.tail _ (.tail _ hra3)))), ?_⟩
    rintro s₂ ⟨g, rfl⟩
    have hvl : vr.length = rs.length := by have := hrD3.length; rwa [List.length_map] at this
    refine rest2_inv (n := vr.toArray.size) (fun i ys => IntsAre ys (moreOf (rs.take i))) (fun ysM hMm => ?fin_WL7) ?turn_WL7 _ 0 [] (by omega) .nil
    case turn_WL7 =>
      intro iR ysR v hiR hYR hvR
      replace hYR : IntsAre ysR (moreOf (rs.take iR)) := hYR
      obtain ⟨hi', hdt⟩ := prs_get hrD3 (i := iR) (v := v) (by simpa using hvR)
      obtain ⟨ta, nt, t1, t2, rfl, hta⟩ := datPr hdt
      refine ⟨ta, _, _, _, nt, rfl, .tail _ (.tail _ (.tail _ (.tail _ (.tail _ hta)))), rfl, rfl, ?_⟩
      intro I oI C oC D m2 h2 tk2 E2 hC hx1 hx2 F2 N2 off2 ne2
      repeat ((fail_if_success (with_reducible show Exists _)); walk1)
      rename Fr _ _ _ _ => F3
      rename News _ _ _ _ => N3
      rename IsRange _ _ _ _ _ _ _ _ => R3r
      rename IntsAre ysR _ => hYR
      have hb := hrbd rs[iR] (List.getElem_mem hi')
      refine ⟨_, _, _, _, _, (rs[iR].2 + 1 - rs[iR].1).toNat, _, _, _, rfl, rfl, F3, N3, R3r, small_up hb.1 (by omega) (by omega), size_up (by omega), ?_, fun zs hz => ?_⟩
      · have h1 := more_le hi'
        have h2 := hrow.len
        rw [rng_len] at h1
        have h3 := hYR.length
        rw [sizeLine_eq]
        omega
      · rw [more_step hi', rng_upTo]
        exact hYR.append hz
    case fin_WL7 =>
      rw [show rs.take vr.toArray.size = rs by rw [List.size_toArray, hvl, List.take_length]] at hMm
      intro DM h22 tk22 F22 N22 off22
      simp only [LCg.Off1] at off22
      dsimp only
      iterate 3 walk1
      rename Fr _ _ _ _ => F23
      rename News _ _ _ _ => N23
      rename_i o23 d23
      k_dflt (refine LCt.Assign_ListComp_T (F₀ := F23) (by rfl) (by with_unfolding_all rfl) (by with_unfolding_all rfl) (by decide) (by rfl) (by decide) (by rfl) (by rfl) (by rfl) ?_)
      walk1
      have hol : vO9.length = out9.length := SiO.length
      have houtl : out9.length ≤ 4 := by
        have h2 := Slaw.sub.length_le
        simpa using h2
      have hO23 : (DO9, W.listOf vO9.toArray nO9) ∈ (DM, LCg.lst ysM) :: (dx, W.dictOf es19 ne19) :: (d, so15) :: (bx, W.listOf #[.ref D1, .int (k9 + 1) t10] 0) :: (L1 + 1 + 1, c29) :: (L1 + 1, o23) :: R3 := .tail _ (.tail _ (.tail _ (.tail _ (.tail _ (.tail _ hRO3)))))
      refine LCt.CompSrcT.ledger (ax := DO9) (its := vO9.toArray) (k := nO9) rfl F23 N23 hO23 (by rw [List.size_toArray, sizeLine_eq]; omega) fun g' => ?_
      generalize hbs : (_ :: _ : List (Addr × Obj)) = bs at N23 hO23 ⊢
      have hM23 : (DM, LCg.lst ysM) ∈ bs := by rw [← hbs]; exact .head _
      have hc23 : (L1 + 1, o23) ∈ bs := by rw [← hbs]; exact .tail _ (.tail _ (.tail _ (.tail _ (.tail _ (.head _)))))
      refine compT_inv (n := vO9.toArray.size) (fun i zs nw => bs = nw ∧ IntsAre zs (lawOut rs (out9.take i))) (fun zs nw hI => ?fin2_WL7) ?turn2_WL7 _ 0 [] _ (by omega) ⟨rfl, .nil⟩
      case turn2_WL7 =>
        rintro i zs nw v hi ⟨rfl, hZ⟩ hv I oI C oC D m2 h2 tk2 E2 hC hx F2 N2 off2 ne2
        have hi' : i < out9.length := by rw [← hol]; simpa using hi
        obtain ⟨tv, hx2⟩ := SiO.get i out9[i] (List.getElem?_eq_getElem hi')
        obtain rfl : v = .int out9[i] tv := by
          have hv' : vO9[i]? = some v := by simpa using hv
          rw [hx2] at hv'; exact (Option.some.inj hv').symm
        have hc2 : (L1 + 1, o23) ∈ (I, oI) :: (C, oC) :: (D, LCg.lst zs) :: bs := .tail _ (.tail _ (.tail _ hc23))
        repeat ((fail_if_success (with_reducible show wpAny _ _ (compareOp _ _ _) _ _ _)); walk1)
        refine notin_list_ints (ns := moreOf rs) (News.isList N2 (.tail _ (.tail _ (.tail _ hM23)))) hMm ?_
        rw [show (!((moreOf rs).any fun z => z == out9[i])) = !decide (out9[i] ∈ moreOf rs) by rw [any_mem]]
        have hstep : lawOut rs (out9.take (i + 1)) = lawOut rs (out9.take i) ++ (if out9[i] ∈ moreOf rs then [] else [out9[i]]) := by
          unfold lawOut
          rw [take_step hi', List.filter_append]
          by_cases c : out9[i] ∈ moreOf rs <;> simp [c]
        by_cases c : out9[i] ∈ moreOf rs
        · rw [if_pos c] at hstep
          simp only [c, decide_true, Bool.not_true]
          iterate 2 walk1
          refine endKeep F2 N2 off2 (.inr ⟨_, hO23, rfl, _, rfl⟩) ⟨rfl, ?_⟩
          rw [hstep, List.append_nil]
          exact hZ
        · rw [if_neg c] at hstep
          simp only [c, decide_false, Bool.not_false]
          iterate 3 walk1
          refine endKeep F2 N2 off2 (.inr ⟨_, hO23, rfl, _, rfl⟩) ⟨rfl, ?_⟩
          rw [hstep]
          exact hZ.append (.cons _ _ .nil)
      case fin2_WL7 =>
        obtain ⟨rfl, hZ⟩ := hI
        rw [show out9.take vO9.toArray.size = out9 by rw [List.size_toArray, hol, List.take_length]] at hZ
        subst hbs
        intro DN h24 tk24 F24 N24 off24
        simp only [LCg.Off1] at off24
        dsimp only
        repeat ((fail_if_success (with_reducible show wpAny _ _ (eval (Expr.IfExp _ _ _ _) _) _ _ _)); walk1)
        rename Fr _ _ _ _ => F25
        rename_i zzst7_1 zzst7_2 zzst7_3
        revert w s0 s1 mg mb G fa oo pm doc hg KX T B w11 w11o M w10 w9 ns sc scs hL hI h1 tk1 c2o c1o qk ek left right K0 L1 hL1 D2 ws hq1 hI8 hC8 hL8 lD2 D1 c1n hq2 lD1 bx hq3 lbx x dx hq4 ldx lx g2 L2 hq5 tk2 hq6 hq7 d hq8 od lod hid ld hq9 hq10 a2 hq11 hq12 tk3 hq13 hq14 a1 hq15 hq16 tk4 hq17 hq18 hq19 hq20 hq21 hq22 hq23 a0 hq24 hq25 zzst4_1 hq26 T3 hq27 hq28 hq29 hq30 zzst1_1 r u0 t0 h11 tk11 hr0 hr1 zzst1_2 zzst3_1 zzst1_3 zzst1_4 many hM top hTop zzst2_3 zzst2_4 zzst2_5 zzst2_6 zzst2_7 zzst2_8 zzst2_9 hmany zzst3_2 ysA tl DA h14 tk14 es0 tn h16 es ne zzst3_3 zzst3_4 zzst3_5 zzst3_6 zzst3_7 zzst3_8 zzst3_9 zzst7_1 ysT DT h19 tk19 DO hu1 TQ hu2 hu3 hu4 hu5 zzst6_1 vsO base h5 tk5 es1 ne1 so1 kvs1 tl1 u1 tm tt zzst4_2 zzst4_3 zzst4_4 zzst4_5 zzst4_6 zzst4_7 zzst4_8 zzst4_9 zzst4_10 hS1 hS2 hS3 hS4 hS5 hS6 hS7 hws hbd hord i9 tI m9 h9 tk9 own hi3 hsq es9 ne9 so9 kvs9 k9 t9 tt9 c29 c19 tl9 ak9 DT9 DO9 vk9 vT9 vO9 nk9 nT9 nO9 told9 out9 acked9 u9 Soff Sdict SisD Skeys ShO SiO ShT SiT ShA SdA Sk0 Sk1 Slaw Sfr v2 Sc2 v1 Sc1 hoff1 R hR hRx hRD hRO hRT hRA hRd hHd ht214 wh uw t10 h10 tk10 hw0 hw1 tlr h11x tk11x rs hrs hrow hrbd ra vr nr hra hrD hRx1 hgS9 hgN9 hgA9 hgm1 hgm2 hgm3 zzst6_2 zzst7_2 hkl tlm h13 tk13 ms hmp hms ma vm nm hma hmI hmlen r15 so15 h15 tk15 kvs15 hD15 hk15 hl15 hal htl least hle hlaw hleast r19 es19 ne19 tl19 h19x tk19x hHd2 ra19 va19 na19 hS19 hSd19 X hX offo3 offt3 R3 hR3 hra19 hda19 hoffR3 hR3' hRx3 hRO3 hRT3 hra3 hrD3 g hvl ysM hMm DM h22 tk22 off22 zzst7_3 o23 F23 d23 tk hol houtl g' zs hZ N23 hO23 hM23 hc23 DN h24 tk24 F25 N24 off24
        exact hh0.out
end
section
set_option maxRecDepth 100000 in
set_option maxHeartbeats 16000000 in
def pk7 : {P : Prop // Hide P → pk6.1} := by
  refine' ⟨_, fun hh0 => ?kk⟩
  case kk =>
    w_top off
    intro w
    set_option tactic.hygienic false in intros
    k_dflt refine' int_mono (k := least) F25 N24 ?first_WL8 ?second_WL8
    case first_WL8 =>
      repeat ((fail_if_success (with_reducible show wpAny _ _ (compareOp _ _ _) _ _ _)); walk1)
      rename Fr _ _ _ _ => F26
      rename News _ _ _ _ => N26
      k_dflt refine' ke_ne_ints (xs := zs) (ys := []) (ns := lawOut rs out9) (ms := []) (News.isList N26 (.tail _ (.head _))) ?a_WL8 hZ .nil ?b_WL8 ?_
      case a_WL8 => exact News.isList N26 (.head _)
      case b_WL8 => ke_room
      cases hcs : lawOut rs out9 with
      | nil =>
        rw [hcs] at hZ hle
        simp only [decide_true, Bool.not_true]
        have hle' : top + 1 = least := hle
        repeat ((fail_if_success (with_reducible show Exists _)); walk1)
        rw [hle']
        exact ⟨_, _, _, rfl, rfl, F26, news_sub N26 fun q hq => .tail _ hq⟩
      | cons n r =>
        rw [hcs] at hZ hle
        have hle' : n = least := hle
        subst hle'
        rw [show (!decide ((n :: r : List Int) = [])) = true by simp]
        cases hZ with
        | cons k t hZ' =>
          repeat ((fail_if_success (with_reducible show Exists _)); walk1)
          exact ⟨_, _, _, rfl, rfl, F26, news_sub N26 fun q hq => .tail _ hq⟩
    case second_WL8 =>
      intro tl26 h26 tk26 F26 N26
      dsimp only
      walk1
      repeat ((fail_if_success (with_reducible show wpAny _ _ (exec (Stmt.Assign _ _ _) _) _ _ _)); walk1)
      rename Fr _ _ _ _ => F27
      rename News _ _ _ _ => N27
      rename_i o27 d27
      k_dflt (refine LCt.Assign_ListComp_T (F₀ := F27) (by rfl) (by with_unfolding_all rfl) (by with_unfolding_all rfl) (by decide) (by rfl) (by decide) (by rfl) (by rfl) (by rfl) ?_)
      walk1
      have hvl9 : vT9.length = told9.length := SiT.length
      have hT27 : (DT9, W.listOf vT9.toArray nT9) ∈ (DN, LCg.lst zs) :: (DM, LCg.lst ysM) :: (dx, W.dictOf es19 ne19) :: (d, so15) :: (bx, W.listOf #[.ref D1, .int (k9 + 1) t10] 0) :: (L1 + 1 + 1, o27) :: (L1 + 1, o23) :: R3 := .tail _ (.tail _ (.tail _ (.tail _ (.tail _ (.tail _ (.tail _ hRT3))))))
      refine LCt.CompSrcT.ledger (ax := DT9) (its := vT9.toArray) (k := nT9) rfl F27 N27 hT27 (by rw [List.size_toArray, sizeLine_eq]; omega) fun g' => ?_
      generalize hbs : (_ :: _ : List (Addr × Obj)) = bs at N27 hT27 ⊢
      have hM27 : (DM, LCg.lst ysM) ∈ bs := by rw [← hbs]; exact .tail _ (.head _)
      have hc27 : (L1 + 1, o23) ∈ bs := by rw [← hbs]; exact .tail _ (.tail _ (.tail _ (.tail _ (.tail _ (.tail _ (.head _))))))
      have he27 : (L1 + 1 + 1, o27) ∈ bs := by rw [← hbs]; exact .tail _ (.tail _ (.tail _ (.tail _ (.tail _ (.head _)))))
      refine compT_inv (n := vT9.toArray.size) (fun i ts nw => bs = nw ∧ IntsAre ts ((told9.take i).filter fun n => !decide (n ∈ moreOf rs) && decide (n ≥ least))) (fun ts nw hI => ?fin2_WL8) ?turn2_WL8 _ 0 [] _ (by omega) ⟨rfl, .nil⟩
      case turn2_WL8 =>
        rintro i ts nw v hi ⟨rfl, hZ3⟩ hv I oI C oC D m2 h2 tk2 E2 hC hx F2 N2 off2 ne2
        have hi' : i < told9.length := by rw [← hvl9]; simpa using hi
        obtain ⟨tv, hx2⟩ := SiT.get i told9[i] (List.getElem?_eq_getElem hi')
        obtain rfl : v = .int told9[i] tv := by
          have hv' : vT9[i]? = some v := by simpa using hv
          rw [hx2] at hv'; exact (Option.some.inj hv').symm
        have hc2 : (L1 + 1, o23) ∈ (I, oI) :: (C, oC) :: (D, LCg.lst ts) :: bs := .tail _ (.tail _ (.tail _ hc27))
        have he2 : (L1 + 1 + 1, o27) ∈ (I, oI) :: (C, oC) :: (D, LCg.lst ts) :: bs := .tail _ (.tail _ (.tail _ he27))
        have hstep : ((told9.take (i + 1)).filter fun n => !decide (n ∈ moreOf rs) && decide (n ≥ least)) = ((told9.take i).filter fun n => !decide (n ∈ moreOf rs) && decide (n ≥ least)) ++ (if told9[i] ∉ moreOf rs ∧ told9[i] ≥ least then [told9[i]] else []) := by
          rw [take_step hi', List.filter_append]
          by_cases c : told9[i] ∈ moreOf rs <;> by_cases c2 : told9[i] ≥ least <;> simp [c, c2]
        repeat ((fail_if_success (with_reducible show wpAny _ _ (compareOp _ _ _) _ _ _)); walk1)
        refine notin_list_ints (ns := moreOf rs) (News.isList N2 (.tail _ (.tail _ (.tail _ hM27)))) hMm ?_
        rw [show (!((moreOf rs).any fun z => z == told9[i])) = !decide (told9[i] ∈ moreOf rs) by rw [any_mem]]
        by_cases c : told9[i] ∈ moreOf rs
        · rw [if_neg (fun e => e.1 c)] at hstep
          simp only [c, decide_true, Bool.not_true]
          repeat ((fail_if_success (with_reducible show LCg.CompEnd _ _ _ _ _ _ _ _ _ _ _ _ _ _)); walk1)
          refine endKeep F2 N2 off2 (.inr ⟨_, hT27, rfl, _, rfl⟩) ⟨rfl, ?_⟩
          rw [hstep, List.append_nil]
          exact hZ3
        · simp only [c, decide_false, Bool.not_false]
          repeat ((fail_if_success (with_reducible show wpAny _ _ (truthy (Value.bool (decide _))) _ _ _)); walk1)
          by_cases c2 : told9[i] ≥ least
          · rw [if_pos ⟨c, c2⟩] at hstep
            rw [show decide (least ≤ told9[i]) = true from decide_eq_true c2]
            repeat ((fail_if_success (with_reducible show LCg.CompEnd _ _ _ _ _ _ _ _ _ _ _ _ _ _)); walk1)
            refine endKeep F2 N2 off2 (.inr ⟨_, hT27, rfl, _, rfl⟩) ⟨rfl, ?_⟩
            rw [hstep]
            exact hZ3.append (.cons _ _ .nil)
          · rw [if_neg (fun e => c2 e.2)] at hstep
            rw [show decide (least ≤ told9[i]) = false from decide_eq_false c2]
            repeat ((fail_if_success (with_reducible show LCg.CompEnd _ _ _ _ _ _ _ _ _ _ _ _ _ _)); walk1)
            refine endKeep F2 N2 off2 (.inr ⟨_, hT27, rfl, _, rfl⟩) ⟨rfl, ?_⟩
            rw [hstep, List.append_nil]
            exact hZ3
      case fin2_WL8 =>
        obtain ⟨rfl, hZ3⟩ := hI
        rw [show told9.take vT9.toArray.size = told9 by rw [List.size_toArray, hvl9, List.take_length]] at hZ3
        subst hbs
        intro DP h28 tk28 F28 N28 off28
        simp only [LCg.Off1] at off28
        dsimp only
        repeat ((fail_if_success (with_reducible show wpAny _ _ (eval (Expr.ListComp _ _ _ _) _) _ _ _)); walk1)
        rename_i zzst8_1 zzst8_2 zzst8_3
        revert w s0 s1 mg mb G fa oo pm doc hg KX T B w11 w11o M w10 w9 ns sc scs hL hI h1 tk1 c2o c1o qk ek left right K0 L1 hL1 D2 ws hq1 hI8 hC8 hL8 lD2 D1 c1n hq2 lD1 bx hq3 lbx x dx hq4 ldx lx g2 L2 hq5 tk2 hq6 hq7 d hq8 od lod hid ld hq9 hq10 a2 hq11 hq12 tk3 hq13 hq14 a1 hq15 hq16 tk4 hq17 hq18 hq19 hq20 hq21 hq22 hq23 a0 hq24 hq25 zzst4_1 hq26 T3 hq27 hq28 hq29 hq30 zzst1_1 r u0 t0 h11 tk11 hr0 hr1 zzst1_2 zzst3_1 zzst1_3 zzst1_4 many hM top hTop zzst2_3 zzst2_4 zzst2_5 zzst2_6 zzst2_7 zzst2_8 zzst2_9 hmany zzst3_2 ysA tl DA h14 tk14 es0 tn h16 es ne zzst3_3 zzst3_4 zzst3_5 zzst3_6 zzst3_7 zzst3_8 zzst3_9 zzst7_1 ysT DT h19 tk19 DO hu1 TQ hu2 hu3 hu4 hu5 zzst6_1 vsO base h5 tk5 es1 ne1 so1 kvs1 tl1 u1 tm tt zzst4_2 zzst4_3 zzst4_4 zzst4_5 zzst4_6 zzst4_7 zzst4_8 zzst4_9 zzst4_10 hS1 hS2 hS3 hS4 hS5 hS6 hS7 hws hbd hord i9 tI m9 h9 tk9 own hi3 hsq es9 ne9 so9 kvs9 k9 t9 tt9 c29 c19 tl9 ak9 DT9 DO9 vk9 vT9 vO9 nk9 nT9 nO9 told9 out9 acked9 u9 Soff Sdict SisD Skeys ShO SiO ShT SiT ShA SdA Sk0 Sk1 Slaw Sfr v2 Sc2 v1 Sc1 hoff1 R hR hRx hRD hRO hRT hRA hRd hHd ht214 wh uw t10 h10 tk10 hw0 hw1 tlr h11x tk11x rs hrs hrow hrbd ra vr nr hra hrD hRx1 hgS9 hgN9 hgA9 hgm1 hgm2 hgm3 zzst6_2 zzst7_2 hkl tlm h13 tk13 ms hmp hms ma vm nm hma hmI hmlen r15 so15 h15 tk15 kvs15 hD15 hk15 hl15 hal htl least hle hlaw hleast r19 es19 ne19 tl19 h19x tk19x hHd2 ra19 va19 na19 hS19 hSd19 X hX offo3 offt3 R3 hR3 hra19 hda19 hoffR3 hR3' hRx3 hRO3 hRT3 hra3 hrD3 g hvl ysM hMm DM h22 tk22 off22 zzst7_3 o23 d23 zzst8_1 hol houtl zzst8_2 zs hZ hO23 hM23 hc23 DN h24 tk24 off24 tl26 h26 tk26 zzst8_3 o27 F27 d27 tk hvl9 g' ts hZ3 N27 hT27 hM27 hc27 he27 DP h28 tk28 F28 N28 off28
        exact hh0.out
end
section
set_option maxRecDepth 100000 in
set_option maxHeartbeats 16000000 in
theorem turn_end : pk7.1 := by
  w_top off
  intro w
  set_option tactic.hygienic false in intros
  k_dflt (refine LCt.ListComp_T (F₀ := F28) (by with_unfolding_all rfl) (by decide) (by rfl) (by decide) (by rfl) ?_)
  walk1
  have hml : ysM.length = (moreOf rs).length := hMm.length
  have hmr := hrow.len
  have hM28 : (DM, LCg.lst ysM) ∈ (DP, LCg.lst ts) :: (DN, LCg.lst zs) :: (DM, LCg.lst ysM) :: (dx, W.dictOf es19 ne19) :: (d, so15) :: (bx, W.listOf #[.ref D1, .int (k9 + 1) t10] 0) :: (L1 + 1 + 1, o27) :: (L1 + 1, o23) :: R3 := .tail _ (.tail _ (.head _))
  refine LCt.CompSrcT.ledger (ax := DM) (its := ysM.toArray) (k := ysM.length) rfl F28 N28 hM28 (by rw [List.size_toArray, sizeLine_eq]; omega) fun g' => ?_
  generalize hbs : (_ :: _ : List (Addr × Obj)) = bs at N28 hM28 ⊢
  have he28 : (L1 + 1 + 1, o27) ∈ bs := by rw [← hbs]; exact .tail _ (.tail _ (.tail _ (.tail _ (.tail _ (.tail _ (.head _))))))
  refine compT_inv (n := ysM.toArray.size) (fun i wq nw => bs = nw ∧ IntsAre wq (((moreOf rs).take i).filter fun n => decide (n ≥ least))) (fun wq nw hI => ?fin2_WL9) ?turn2_WL9 _ 0 [] _ (by omega) ⟨rfl, .nil⟩
  case turn2_WL9 =>
    rintro i us nw v hi ⟨rfl, hZ4⟩ hv I oI C oC D m2 h2 tk2 E2 hC hx F2 N2 off2 ne2
    have hi' : i < (moreOf rs).length := by rw [← hml]; simpa using hi
    obtain ⟨tv, hx2⟩ := hMm.get i (moreOf rs)[i] (List.getElem?_eq_getElem hi')
    obtain rfl : v = .int (moreOf rs)[i] tv := by
      have hv' : ysM[i]? = some v := by simpa using hv
      rw [hx2] at hv'; exact (Option.some.inj hv').symm
    have he2 : (L1 + 1 + 1, o27) ∈ (I, oI) :: (C, oC) :: (D, LCg.lst us) :: bs := .tail _ (.tail _ (.tail _ he28))
    have hstep : (((moreOf rs).take (i + 1)).filter fun n => decide (n ≥ least)) = (((moreOf rs).take i).filter fun n => decide (n ≥ least)) ++ (if (moreOf rs)[i] ≥ least then [(moreOf rs)[i]] else []) := by
      rw [take_step hi', List.filter_append]
      by_cases c2 : (moreOf rs)[i] ≥ least <;> simp [c2]
    repeat ((fail_if_success (with_reducible show wpAny _ _ (truthy (Value.bool (decide _))) _ _ _)); walk1)
    by_cases c2 : (moreOf rs)[i] ≥ least
    · rw [if_pos c2] at hstep
      rw [show decide (least ≤ (moreOf rs)[i]) = true from decide_eq_true c2]
      repeat ((fail_if_success (with_reducible show LCg.CompEnd _ _ _ _ _ _ _ _ _ _ _ _ _ _)); walk1)
      refine endKeep F2 N2 off2 (.inr ⟨_, hM28, rfl, _, rfl⟩) ⟨rfl, ?_⟩
      rw [hstep]
      exact hZ4.append (.cons _ _ .nil)
    · rw [if_neg c2] at hstep
      rw [show decide (least ≤ (moreOf rs)[i]) = false from decide_eq_false c2]
      repeat ((fail_if_success (with_reducible show LCg.CompEnd _ _ _ _ _ _ _ _ _ _ _ _ _ _)); walk1)
      refine endKeep F2 N2 off2 (.inr ⟨_, hM28, rfl, _, rfl⟩) ⟨rfl, ?_⟩
      rw [hstep, List.append_nil]
      exact hZ4
  case fin2_WL9 =>
    obtain ⟨rfl, hZ4⟩ := hI
    rw [show (moreOf rs).take ysM.toArray.size = moreOf rs by rw [List.size_toArray, hml, List.take_length]] at hZ4
    subst hbs
    intro DQ h29 tk29 F29 N29 off29
    simp only [LCg.Off1] at off29
    dsimp only
    have htl2 := hlaw.len
    have hul : ts.length + wq.length ≤ 200 := by
      have h1 := hZ3.length
      have h2 := hZ4.length
      have h3 : (lawTold rs least told9).length = ts.length + wq.length := by unfold lawTold; rw [List.length_append, h1, h2]
      omega
    refine add_lists (vs := ts) (ws := wq) F29 N29 (News.isList N29 (.tail _ (.head _))) (News.isList N29 (.head _)) (fun h30 F30 N30 => ?_) (by rw [sizeLine_eq]; omega)
    have hI30 : IntsAre (ts ++ wq) (lawTold rs least told9) := hZ3.append hZ4
    generalize hDS : (Shared.heap _).objs.size = DS at N30 ⊢
    have lDS : ∀ q ∈ (DQ, LCg.lst wq) :: (DP, LCg.lst ts) :: (DN, LCg.lst zs) :: (DM, LCg.lst ysM) :: (dx, W.dictOf es19 ne19) :: (d, so15) :: (bx, W.listOf #[.ref D1, .int (k9 + 1) t10] 0) :: (L1 + 1 + 1, o27) :: (L1 + 1, o23) :: R3, q.1 < DS := fun q hq => hDS ▸ Heap.lt_size (N29 q hq).1
    have N31 := regroup9 N30
    have hx31 : (x, instObj 230 dx) ∈ (dx, W.dictOf es19 ne19) :: (d, so15) :: (bx, W.listOf #[.ref D1, .int (k9 + 1) t10] 0) :: (L1 + 1 + 1, o27) :: (L1 + 1, o23) :: ([(DS, ({ cls := .type "list", data := .seq (ts ++ wq).toArray } : Obj)), (DQ, LCg.lst wq), (DP, LCg.lst ts), (DN, LCg.lst zs), (DM, LCg.lst ysM)] ++ R3) := .tail _ (.tail _ (.tail _ (.tail _ (.tail _ (List.mem_append_right _ hRx3)))))
    have hg31 := hSd19.acked
    clear N30 N29
    walk1
    repeat ((fail_if_success (with_reducible show wpAny _ _ (call (Value.ref _) _) _ _ _)); walk1)
    rename Fr _ _ _ _ => F32
    rename News _ _ _ _ => N32
    have htlen : (lawTold rs least told9).length ≤ 1000 := by omega
    k_dflt refine' Does.use (joined_does htlen) ?uB_WL9 ?uF_WL9 ?uX_WL9 ?uN_WL9 ?uT_WL9 ?uk_WL9 ?up_WL9 ?u1_WL9 ?u2_WL9 ?_
    case uB_WL9 => exact K0
    case uF_WL9 => exact F32
    case uX_WL9 => exact KX
    case uN_WL9 => exact N32
    case uT_WL9 => exact T
    case uk_WL9 => exact rfl
    case up_WL9 => exact ⟨_, rfl, DS, ts ++ wq, 0, rfl, .tail _ (.tail _ (.tail _ (.tail _ (.tail _ (.head _))))), hI30⟩
    case u1_WL9 => decide
    case u2_WL9 => decide
    rintro jv tlj h33 tk33 F33 N33 off33 ⟨mj, hP33, hmjp, hmjs⟩
    have hjoin := law_joined hlaw hmjp hmjs
    obtain ⟨ja, jvs, jn, rfl, hja, hjD⟩ := hP33
    dsimp only
    refine ne_pairs N33 (rs := lawAcked rs least acked9) (vs := va19) (n := na19) ?a_WL9 ?b_WL9 hja hjD ?c_WL9 ?_
    case a_WL9 => exact List.mem_append_left _ (.tail _ (.tail _ (.tail _ (.tail _ (.tail _ (List.mem_append_right _ hra19))))))
    case b_WL9 => exact hda19.mono fun q hq => List.mem_append_left _ (.tail _ (.tail _ (.tail _ (.tail _ (.tail _ (List.mem_append_right _ hq))))))
    case c_WL9 => ke_room
    rw [show (!decide (lawAcked rs least acked9 = mj.foldl joinStep [])) = false by rw [hjoin]; simp]
    simp only [List.cons_append, List.nil_append] at N33
    have hgS31 := (hSd19.other (Str.ofString "sent") (by decide)).trans hS1
    have hx33 : (x, instObj 230 dx) ∈ (dx, W.dictOf es19 ne19) :: (d, so15) :: (bx, W.listOf #[.ref D1, .int (k9 + 1) t10] 0) :: (L1 + 1 + 1, o27) :: (L1 + 1, o23) :: (DS, ({ cls := .type "list", data := .seq (ts ++ wq).toArray } : Obj)) :: (DQ, LCg.lst wq) :: (DP, LCg.lst ts) :: (DN, LCg.lst zs) :: (DM, LCg.lst ysM) :: (R3 ++ tlj) := .tail _ (.tail _ (.tail _ (.tail _ (.tail _ (.tail _ (.tail _ (.tail _ (.tail _ (.tail _ (List.mem_append_left _ hRx3))))))))))
    repeat ((fail_if_success (with_reducible show wpAny _ _ (call (Value.builtin _) _) _ _ _)); walk1)
    refine' sortedDict (o := so15) (kvs := kvs15) rfl F33 N33 (.tail _ (.head _)) hD15 lod ?a_WL9 ?_
    case a_WL9 => omega
    intro SB h34 tk34 vsS nsS eS F34 N34 lSB hIS hpS hsS
    have hsrt := sorted_out ht214 hlaw.sub (by rw [← hk15]; exact hpS) hsS
    subst hsrt
    dsimp only
    repeat ((fail_if_success (with_reducible show wpAny _ _ (compareOp _ _ _) _ _ _)); walk1)
    k_dflt refine' ke_ne_ints (xs := vsS) (ys := zs) (ns := lawOut rs out9) (ms := lawOut rs out9) (News.isList N34 (.head _)) ?a_WL9 hIS hZ ?b_WL9 ?_
    case a_WL9 => exact News.isList N34 (.tail _ (.tail _ (.tail _ (.tail _ (.tail _ (.tail _ (.tail _ (.tail _ (.tail _ (.head _))))))))))
    case b_WL9 => ke_room
    simp only [decide_true, Bool.not_true]
    repeat ((fail_if_success (with_reducible show InvEndG _ _ _ _ _ _)); walk1)
    rename Fr _ _ _ _ => F35
    have hXm : ∀ q ∈ X, q ∈ R3 := fun q hq => by rw [hR3']; exact List.mem_append_right _ hq
    have hRm : ∀ q ∈ R, q ∈ R3 := fun q hq => by rw [hR3']; exact List.mem_append_left _ hq
    have htm : ∀ q ∈ tl9, q ∈ R := fun q hq => by rw [← hR]; exact List.mem_append_left _ (List.mem_append_left _ hq)
    have hom : ∀ q ∈ own, q ∈ R := fun q hq => by rw [← hR]; exact List.mem_append_right _ hq
    have hfm : ∀ q ∈ [(x, instObj 230 dx), (D1, W.listOf ws.toArray c1n)], q ∈ R := fun q hq => by rw [← hR]; exact List.mem_append_left _ (List.mem_append_right _ hq)
    have lDS3 : ∀ q ∈ R3, (@LT.lt Nat _ q.1 DS) := fun q hq => lDS q (by simp [hq])
    have oDN3 : ∀ q ∈ R3, q.1 ≠ DN := by
      have := off24
      exact off1_mem this.2.2.2.2.2.2
    generalize hT' : ((DS, ({ cls := .type "list", data := .seq (ts ++ wq).toArray } : Obj)) :: (DN, LCg.lst zs) :: (X ++ tl9) : Led) = T9
    have hT9 : ∀ q ∈ T9, q = (DS, ({ cls := .type "list", data := .seq (ts ++ wq).toArray } : Obj)) ∨ q = (DN, LCg.lst zs) ∨ q ∈ X ∨ q ∈ tl9 := by
      intro q hq
      rw [← hT'] at hq
      rcases List.mem_cons.mp hq with h | hq
      · exact .inl h
      rcases List.mem_cons.mp hq with h | hq
      · exact .inr (.inl h)
      · exact .inr (.inr (List.mem_append.mp hq))
    have hTX : ∀ q ∈ X, q ∈ T9 := fun q hq => by rw [← hT']; exact .tail _ (.tail _ (List.mem_append_left _ hq))
    have hTt : ∀ q ∈ tl9, q ∈ T9 := fun q hq => by rw [← hT']; exact .tail _ (.tail _ (List.mem_append_right _ hq))
    have hTDS : (DS, ({ cls := .type "list", data := .seq (ts ++ wq).toArray } : Obj)) ∈ T9 := by rw [← hT']; exact .head _
    have hTDN : (DN, LCg.lst zs) ∈ T9 := by rw [← hT']; exact .tail _ (.head _)
    have hsqm : ∀ p ∈ R3, (∃ xs n, p.2.data = .seq xs n) → p ∈ T9 ++ [(x, instObj 230 dx), (D1, W.listOf ws.toArray c1n)] := by
      intro p hp hs
      rw [hR3'] at hp
      rcases List.mem_append.mp hp with hp | hp
      · rw [← hR] at hp
        rcases List.mem_append.mp hp with hp | hp
        · rcases List.mem_append.mp hp with hp | hp
          · exact List.mem_append_left _ (hTt p hp)
          · exact List.mem_append_right _ hp
        · obtain ⟨xs, n, e⟩ := hs
          exact absurd e (hsq p hp xs n)
      · exact List.mem_append_left _ (hTX p hp)
    refine ⟨_, _, _, _, (dx, W.dictOf es19 ne19) :: (d, so15) :: (bx, W.listOf #[.ref D1, .int (k9 + 1) t10] 0) :: (L1 + 1 + 1, o27) :: (L1 + 1, o23) :: (T9 ++ [(x, instObj 230 dx), (D1, W.listOf ws.toArray c1n)]), rfl, F35, N34, ?hn_WL9, ?ho_WL9, ?ha_WL9, ?hm_WL9⟩
    case hn_WL9 =>
      intro q hq
      rcases List.mem_cons.mp hq with rfl | hq
      · exact .tail _ (.head _)
      rcases List.mem_cons.mp hq with rfl | hq
      · exact .tail _ (.tail _ (.head _))
      rcases List.mem_cons.mp hq with rfl | hq
      · exact .tail _ (.tail _ (.tail _ (.head _)))
      rcases List.mem_cons.mp hq with rfl | hq
      · exact .tail _ (.tail _ (.tail _ (.tail _ (.head _))))
      rcases List.mem_cons.mp hq with rfl | hq
      · exact .tail _ (.tail _ (.tail _ (.tail _ (.tail _ (.head _)))))
      rcases List.mem_append.mp hq with hq | hq
      · rcases hT9 q hq with rfl | rfl | hq | hq
        · exact .tail _ (.tail _ (.tail _ (.tail _ (.tail _ (.tail _ (.head _))))))
        · exact .tail _ (.tail _ (.tail _ (.tail _ (.tail _ (.tail _ (.tail _ (.tail _ (.tail _ (.head _)))))))))
        · exact .tail _ (.tail _ (.tail _ (.tail _ (.tail _ (.tail _ (.tail _ (.tail _ (.tail _ (.tail _ (.tail _ (List.mem_append_left _ (hXm q hq))))))))))))
        · exact .tail _ (.tail _ (.tail _ (.tail _ (.tail _ (.tail _ (.tail _ (.tail _ (.tail _ (.tail _ (.tail _ (List.mem_append_left _ (hRm q (htm q hq)))))))))))))
      · exact .tail _ (.tail _ (.tail _ (.tail _ (.tail _ (.tail _ (.tail _ (.tail _ (.tail _ (.tail _ (.tail _ (List.mem_append_left _ (hRm q (hfm q hq)))))))))))))
    case ho_WL9 => exact fun q hq => .tail _ (.tail _ (.tail _ (.tail _ (.tail _ (.tail _ (.tail _ (.tail _ (.tail _ (.tail _ (.tail _ (List.mem_append_left _ (hRm q (hom q hq)))))))))))))
    case ha_WL9 =>
      intro q hq b hb
      have hqR := hRm q (hom q hq)
      obtain ⟨y, hy, rfl⟩ := List.mem_map.mp hb
      rcases List.mem_cons.mp hy with rfl | hy
      · exact hoff1 q hq _ (.head _)
      rcases List.mem_cons.mp hy with rfl | hy
      · exact hoff1 q hq _ (.tail _ (.head _))
      rcases List.mem_cons.mp hy with rfl | hy
      · exact hoff1 q hq _ (.tail _ (.tail _ (.head _)))
      rcases List.mem_cons.mp hy with rfl | hy
      · exact hoff1 q hq _ (.tail _ (.tail _ (.tail _ (.head _))))
      rcases List.mem_cons.mp hy with rfl | hy
      · exact hoff1 q hq _ (.tail _ (.tail _ (.tail _ (.tail _ (.head _)))))
      rcases List.mem_append.mp hy with hy | hy
      · rcases hT9 y hy with rfl | rfl | hy | hy
        · exact Nat.ne_of_lt (lDS3 q hqR)
        · exact oDN3 q hqR
        · exact offo3 q hq _ (List.mem_map.mpr ⟨y, hy, rfl⟩)
        · exact hoff1 q hq _ (.tail _ (.tail _ (.tail _ (.tail _ (.tail _ (List.mem_append_left _ (List.mem_map.mpr ⟨y, hy, rfl⟩)))))))
      · refine hoff1 q hq _ (.tail _ (.tail _ (.tail _ (.tail _ (.tail _ (List.mem_append_right _ ?_))))))
        rcases List.mem_cons.mp hy with rfl | hy
        · exact .head _
        · rw [List.mem_singleton.mp hy]
          exact .tail _ (.head _)
    case hm_WL9 =>
      refine ⟨es19, ne19, so15, kvs15, k9 + 1, t10, _, o27, o23, T9, ra19, DS, DN, va19, ts ++ wq, zs, na19, 0, zs.length, lawTold rs least told9, lawOut rs out9, lawAcked rs least acked9, _,
        { nx := rfl, off := ?off_WL9, cell2 := ⟨_, d27⟩, cell1 := ⟨_, d23⟩, dict := hSd19, isD := hD15, keys := hk15, hO := hTDN, iO := hZ, hT := hTDS, iT := hI30, hA := hsqm _ hra19 ⟨_, _, rfl⟩, dA := DatAll_seqs hsqm hda19, k0 := by omega, k1 := by omega, law := hlaw, fr := turnFrm_of rfl rfl rfl rfl rfl }⟩
      case off_WL9 =>
        intro q hq b hb
        have hb' : b = dx ∨ b = d ∨ b = bx ∨ b = L1 + 1 + 1 ∨ b = L1 + 1 ∨ b = x ∨ b = D1 := by simpa using hb
        rcases hT9 q hq with rfl | rfl | hq | hq
        · refine (Nat.ne_of_lt ?_).symm
          rcases hb' with e | e | e | e | e | e | e
          · rw [e]; exact lDS _ (.tail _ (.tail _ (.tail _ (.tail _ (.head _)))))
          · rw [e]; exact lDS _ (.tail _ (.tail _ (.tail _ (.tail _ (.tail _ (.head _))))))
          · rw [e]; exact lDS _ (.tail _ (.tail _ (.tail _ (.tail _ (.tail _ (.tail _ (.head _)))))))
          · rw [e]; exact lDS _ (.tail _ (.tail _ (.tail _ (.tail _ (.tail _ (.tail _ (.tail _ (.head _))))))))
          · rw [e]; exact lDS _ (.tail _ (.tail _ (.tail _ (.tail _ (.tail _ (.tail _ (.tail _ (.tail _ (.head _)))))))))
          · rw [e]; exact lDS3 _ hRx3
          · rw [e]; exact lDS3 _ (hRm _ hRD)
        · refine Ne.symm ?_
          rcases hb' with e | e | e | e | e | e | e
          · rw [e]; exact off24.2.1
          · rw [e]; exact off24.2.2.1
          · rw [e]; exact off24.2.2.2.1
          · rw [e]; exact off24.2.2.2.2.1
          · rw [e]; exact off24.2.2.2.2.2.1
          · rw [e]; exact oDN3 _ hRx3
          · rw [e]; exact oDN3 _ (hRm _ hRD)
        · rcases hb' with e | e | e | e | e | e | e
          · rw [e]; exact hoffR3 q (hXm q hq) _ (.head _)
          · rw [e]; exact hoffR3 q (hXm q hq) _ (.tail _ (.head _))
          · rw [e]; exact hoffR3 q (hXm q hq) _ (.tail _ (.tail _ (.head _)))
          · rw [e]; exact hoffR3 q (hXm q hq) _ (.tail _ (.tail _ (.tail _ (.head _))))
          · rw [e]; exact hoffR3 q (hXm q hq) _ (.tail _ (.tail _ (.tail _ (.tail _ (.head _)))))
          · rw [e]; exact offt3 q hq _ (.head _)
          · rw [e]; exact offt3 q hq _ (.tail _ (.head _))
        · exact Soff q hq b hb
end
end
end
theorem law_holds : PySem.Challenge.rw_rg0248_01.Holds :=
  pk0.2 ⟨pk1.2 ⟨pk2.2 ⟨pk3.2 ⟨pk4.2 ⟨pk5.2 ⟨pk6.2 ⟨pk7.2 ⟨turn_end⟩⟩⟩⟩⟩⟩⟩⟩
end Mine
end
theorem PySem.Challenge.cw_rg0248_01_holds : PySem.Challenge.rw_rg0248_01.Holds :=
  Mine.law_holds
