import PyProof.Rows.All
import Wide.All
import OpenK.AllK
import Wide.FinOn
import HandS.ForMost
import HandS.EndBits
import HandS.Wide
import HandS.Style
import HandS.IsInst
import HandS.More
import HandS.SortInts
import PySem.Challenge.RW_trudge_k93_whole_none_rises_none_falls
import HandS.Steps
import HandS.Evl
set_option autoImplicit false
set_option linter.all false
/-! Plain law of trudge: passes, lids, effects, rounds. No program in sight. -/
namespace Tr
abbrev W3 := Nat × Nat × Int
abbrev Tb := List (Option Int)

def g (t : Tb) (p : Nat) : Option Int := (t[p]?).join
def le : Option Int → Option Int → Prop
  | none, _ => True
  | some _, none => False
  | some a, some b => a ≤ b
def stepF (S x c : Int) : Option Int := if x + c < 0 then none else some (if x + c < S then x + c else S)
/-- new[end] is None or behind > new[end] -/
def upB : Option Int → Int → Bool
  | none, _ => true
  | some v, b => decide (v < b)

theorem le_refl (a : Option Int) : le a a := by cases a <;> simp [le]
theorem le_trans {a b c : Option Int} (h : le a b) (k : le b c) : le a c := by
  cases a <;> cases b <;> cases c <;> simp_all [le]
  omega
theorem le_antisymm {a b : Option Int} (h : le a b) (k : le b a) : a = b := by
  cases a <;> cases b <;> simp_all [le]
  omega
theorem le_none (a : Option Int) : le none a := by simp [le]
theorem le_some {x : Int} {a : Option Int} (h : le (some x) a) : ∃ y, a = some y ∧ x ≤ y := by
  cases a with
  | none => simp [le] at h
  | some y => exact ⟨y, rfl, h⟩
theorem some_le {x y : Int} (h : x ≤ y) : le (some x) (some y) := h

theorem g_some {t : Tb} {p : Nat} {x : Int} : g t p = some x ↔ t[p]? = some (some x) := by
  unfold g
  cases h : t[p]? with
  | none => simp
  | some o => cases o <;> simp
theorem g_of {t : Tb} {p : Nat} {o : Option Int} (h : t[p]? = some o) : g t p = o := by
  unfold g
  rw [h]
  cases o <;> rfl
theorem g_lt {t : Tb} {p : Nat} (h : p < t.length) : t[p]? = some (g t p) := by
  unfold g
  rw [List.getElem?_eq_getElem h]
  cases t[p] <;> rfl
theorem g_out {t : Tb} {p : Nat} (h : t.length ≤ p) : g t p = none := by
  unfold g
  rw [List.getElem?_eq_none h]
  rfl
theorem g_set {t : Tb} {e p : Nat} {v : Option Int} (h : e < t.length) : g (t.set e v) p = if p = e then v else g t p := by
  unfold g
  by_cases q : p = e
  · subst q
    rw [if_pos rfl, List.getElem?_set_self h]
    cases v <;> rfl
  · rw [if_neg q, List.getElem?_set_ne (fun z => q z.symm)]
theorem g_ext {t u : Tb} (hl : t.length = u.length) (h : ∀ p, g t p = g u p) : t = u := by
  apply List.ext_getElem? 
  intro p
  by_cases q : p < t.length
  · rw [g_lt q, g_lt (hl ▸ q), h]
  · rw [List.getElem?_eq_none (by omega), List.getElem?_eq_none (by omega)]

theorem stepF_some {S x c b : Int} (h : stepF S x c = some b) : 0 ≤ x + c ∧ b = (if x + c < S then x + c else S) := by
  unfold stepF at h
  split at h
  · cases h
  · exact ⟨by omega, (Option.some.inj h).symm⟩
theorem stepF_mono {S x y c b : Int} (h : stepF S x c = some b) (hy : x ≤ y) : ∃ b', stepF S y c = some b' ∧ b ≤ b' := by
  obtain ⟨h0, rfl⟩ := stepF_some h
  refine ⟨_, if_neg (by omega), ?_⟩
  split <;> split <;> omega
theorem stepF_bd {S x c b : Int} (hS : 0 ≤ S) (h : stepF S x c = some b) : 0 ≤ b ∧ b ≤ S := by
  obtain ⟨h0, rfl⟩ := stepF_some h
  split <;> omega

/-! ### one pass -/
def goStep (S : Int) (old : Tb) (acc : Tb × List (Option Nat)) (k : Nat) (w : W3) : Tb × List (Option Nat) :=
  match g old w.1 with
  | none => acc
  | some x => match stepF S x w.2.2 with
    | none => acc
    | some b => if upB (g acc.1 w.2.1) b = true then (acc.1.set w.2.1 (some b), acc.2.set w.2.1 (some k)) else acc
def goN (S : Int) (ways : List W3) (old : Tb) : Nat → Tb × List (Option Nat)
  | 0 => (old, List.replicate old.length none)
  | i + 1 => match ways[i]? with
    | some w => goStep S old (goN S ways old i) i w
    | none => goN S ways old i
def goF (S : Int) (ways : List W3) (old : Tb) : Tb × List (Option Nat) := goN S ways old ways.length
def WOk (n : Nat) (ways : List W3) : Prop := ∀ w ∈ ways, w.1 < n ∧ w.2.1 < n

structure GoInv (S : Int) (ways : List W3) (old : Tb) (i : Nat) (acc : Tb × List (Option Nat)) : Prop where
  l1 : acc.1.length = old.length
  l2 : acc.2.length = old.length
  up : ∀ p, le (g old p) (g acc.1 p)
  cl : ∀ (j : Nat) (w : W3) (x b : Int), j < i → ways[j]? = some w → g old w.1 = some x → stepF S x w.2.2 = some b → le (some b) (g acc.1 w.2.1)
  non : ∀ (p : Nat), acc.2[p]? = some none → g acc.1 p = g old p
  som : ∀ (p k : Nat), acc.2[p]? = some (some k) → ∃ (w : W3) (x b : Int), ways[k]? = some w ∧ w.2.1 = p ∧ g old w.1 = some x ∧ stepF S x w.2.2 = some b ∧ g acc.1 p = some b ∧ ∀ v, g old p = some v → v < b

theorem go_zero (S : Int) (ways : List W3) (old : Tb) : GoInv S ways old 0 (old, List.replicate old.length none) := by
  refine ⟨rfl, by simp, fun p => le_refl _, fun j w x b h => by omega, fun p _ => rfl, fun p k h => ?_⟩
  rw [List.getElem?_replicate] at h
  split at h
  · cases Option.some.inj h
  · cases h

theorem go_step {S : Int} {ways : List W3} {old : Tb} {i : Nat} {acc : Tb × List (Option Nat)} {w : W3} (I : GoInv S ways old i acc) (hw : ways[i]? = some w) (he : w.2.1 < old.length) :
    GoInv S ways old (i + 1) (goStep S old acc i w) := by
  have keep : (∀ x b, g old w.1 = some x → stepF S x w.2.2 = some b → le (some b) (g acc.1 w.2.1)) → GoInv S ways old (i + 1) acc := fun hk =>
    ⟨I.l1, I.l2, I.up, fun j w' x b hj hw' hx hb => by
      by_cases e : j = i
      · subst e
        rw [hw] at hw'
        cases hw'
        exact hk x b hx hb
      · exact I.cl j w' x b (by omega) hw' hx hb, I.non, I.som⟩
  unfold goStep
  cases hx : g old w.1 with
  | none => exact keep fun x b h => by rw [hx] at h; cases h
  | some x =>
    dsimp only
    cases hb : stepF S x w.2.2 with
    | none => exact keep fun x' b h h' => by rw [hx] at h; cases h; rw [hb] at h'; cases h'
    | some b =>
      dsimp only
      by_cases hu : upB (g acc.1 w.2.1) b = true
      · rw [if_pos hu]
        have he1 : w.2.1 < acc.1.length := by rw [I.l1]; exact he
        have he2 : w.2.1 < acc.2.length := by rw [I.l2]; exact he
        have hle : le (g acc.1 w.2.1) (some b) := by
          cases q : g acc.1 w.2.1 with
          | none => exact le_none _
          | some v =>
            rw [q] at hu
            have := of_decide_eq_true hu
            exact some_le (by omega)
        have upn : ∀ p, le (g acc.1 p) (g (acc.1.set w.2.1 (some b)) p) := fun p => by
          rw [g_set he1]
          by_cases e : p = w.2.1
          · rw [if_pos e, e]; exact hle
          · rw [if_neg e]; exact le_refl _
        refine ⟨by simpa using I.l1, by simpa using I.l2, fun p => le_trans (I.up p) (upn p), fun j w' x' b' hj hw' hx' hb' => ?_, fun p hp => ?_, fun p k hp => ?_⟩
        · by_cases e : j = i
          · subst e
            rw [hw] at hw'
            cases hw'
            rw [hx] at hx'
            cases hx'
            rw [hb] at hb'
            cases hb'
            dsimp only
            rw [g_set he1, if_pos rfl]
            exact le_refl _
          · exact le_trans (I.cl j w' x' b' (by omega) hw' hx' hb') (upn _)
        · dsimp only at hp ⊢
          by_cases e : p = w.2.1
          · subst e
            rw [List.getElem?_set_self he2] at hp
            cases Option.some.inj hp
          · rw [List.getElem?_set_ne (fun z => e z.symm)] at hp
            rw [g_set he1, if_neg e]
            exact I.non p hp
        · dsimp only at hp ⊢
          by_cases e : p = w.2.1
          · subst e
            rw [List.getElem?_set_self he2] at hp
            cases Option.some.inj hp
            refine ⟨w, x, b, hw, rfl, hx, hb, by rw [g_set he1, if_pos rfl], fun v hv => ?_⟩
            have h1 := I.up w.2.1
            rw [hv] at h1
            obtain ⟨y, hy, hvy⟩ := le_some h1
            rw [hy] at hu
            have := of_decide_eq_true hu
            omega
          · rw [List.getElem?_set_ne (fun z => e z.symm)] at hp
            obtain ⟨w', x', b', h1, h2, h3, h4, h5, h6⟩ := I.som p k hp
            exact ⟨w', x', b', h1, h2, h3, h4, by rw [g_set he1, if_neg e]; exact h5, h6⟩
      · rw [if_neg hu]
        refine keep fun x' b' h h' => ?_
        rw [hx] at h
        cases h
        rw [hb] at h'
        cases h'
        cases q : g acc.1 w.2.1 with
        | none => rw [q] at hu; exact absurd rfl hu
        | some v =>
          rw [q] at hu
          refine some_le ?_
          have : ¬ v < b := fun z => hu (decide_eq_true z)
          omega

theorem goN_inv {S : Int} {ways : List W3} {old : Tb} (hw : WOk old.length ways) : ∀ i, i ≤ ways.length → GoInv S ways old i (goN S ways old i)
  | 0, _ => go_zero S ways old
  | i + 1, h => by
    have ih := goN_inv (S := S) hw i (by omega)
    have hi : i < ways.length := by omega
    have e : ways[i]? = some ways[i] := List.getElem?_eq_getElem hi
    show GoInv S ways old (i + 1) (match ways[i]? with | some w => goStep S old (goN S ways old i) i w | none => goN S ways old i)
    rw [e]
    exact go_step ih e (hw _ (List.getElem_mem hi)).2
theorem goF_inv {S : Int} {ways : List W3} {old : Tb} (hw : WOk old.length ways) : GoInv S ways old ways.length (goF S ways old) := goN_inv hw _ (Nat.le_refl _)

/-! ### tables pass by pass -/
structure Psd (S : Int) (ways : List W3) (starts : Tb) (ts : List Tb) (ms : List (List (Option Nat))) : Prop where
  t0 : ts[0]? = some starts
  m0 : ms[0]? = some (List.replicate starts.length none)
  len : ms.length = ts.length
  nx : ∀ (i : Nat) (t t' : Tb), ts[i]? = some t → ts[i + 1]? = some t' → t' = (goF S ways t).1 ∧ ms[i + 1]? = some (goF S ways t).2
def lev (ts : List Tb) (k p : Nat) : Option Int := match ts[k]? with
  | some t => g t p
  | none => none
theorem lev_of {ts : List Tb} {k p : Nat} {t : Tb} (h : ts[k]? = some t) : lev ts k p = g t p := by
  unfold lev
  rw [h]

section
variable {S : Int} {ways : List W3} {starts : Tb} {ts : List Tb} {ms : List (List (Option Nat))} {n : Nat}
theorem Psd.length (P : Psd S ways starts ts ms) (hw : WOk starts.length ways) : ∀ (i : Nat) (t : Tb), ts[i]? = some t → t.length = starts.length
  | 0, t, h => by
    rw [P.t0] at h
    cases h
    rfl
  | i + 1, t, h => by
    have hi : i < ts.length := by
      have := (List.getElem?_eq_some_iff.mp h).1
      omega
    have e : ts[i]? = some ts[i] := List.getElem?_eq_getElem hi
    have ih := P.length hw i _ e
    obtain ⟨h1, _⟩ := P.nx i _ _ e h
    rw [h1, (goF_inv (ih ▸ hw)).l1, ih]
/-- one pass, told by levels -/
theorem Psd.at (P : Psd S ways starts ts ms) (hw : WOk starts.length ways) {k : Nat} (hk : k + 1 < ts.length) :
    (∀ p, le (lev ts k p) (lev ts (k + 1) p)) ∧ (∀ w ∈ ways, ∀ x b, lev ts k w.1 = some x → stepF S x w.2.2 = some b → le (some b) (lev ts (k + 1) w.2.1)) ∧
    ∃ m, ms[k + 1]? = some m ∧ m.length = starts.length ∧ (∀ p : Nat, m[p]? = some none → lev ts (k + 1) p = lev ts k p) ∧
      ∀ p i : Nat, m[p]? = some (some i) → ∃ (w : W3) (x b : Int), ways[i]? = some w ∧ w.2.1 = p ∧ lev ts k w.1 = some x ∧ stepF S x w.2.2 = some b ∧ lev ts (k + 1) p = some b ∧ ∀ v, lev ts k p = some v → v < b := by
  have e1 : ts[k]? = some ts[k] := List.getElem?_eq_getElem (by omega)
  have e2 : ts[k + 1]? = some ts[k + 1] := List.getElem?_eq_getElem hk
  have hl := P.length hw k _ e1
  obtain ⟨h1, h2⟩ := P.nx k _ _ e1 e2
  have a1 : ∀ p, lev ts k p = g ts[k] p := fun p => lev_of e1
  have a2 : ∀ p, lev ts (k + 1) p = g (goF S ways ts[k]).1 p := fun p => by rw [lev_of e2, h1]
  have I := goF_inv (S := S) (ways := ways) (old := ts[k]) (hl ▸ hw)
  refine ⟨fun p => by rw [a1, a2]; exact I.up p, fun w hm x b hx hb => ?_, _, h2, by rw [I.l2, hl], fun p hp => by rw [a1, a2]; exact I.non p hp, fun p i hp => ?_⟩
  · obtain ⟨j, hj, ej⟩ := List.getElem_of_mem hm
    rw [a2]
    exact I.cl j w x b hj (by rw [List.getElem?_eq_getElem hj, ej]) (by rw [← a1]; exact hx) hb
  · obtain ⟨w, x, b, q1, q2, q3, q4, q5, q6⟩ := I.som p i hp
    exact ⟨w, x, b, q1, q2, by rw [a1]; exact q3, q4, by rw [a2]; exact q5, fun v hv => q6 v (by rw [← a1]; exact hv)⟩
theorem Psd.mono (P : Psd S ways starts ts ms) (hw : WOk starts.length ways) {i : Nat} (p : Nat) : ∀ d, i + d < ts.length → le (lev ts i p) (lev ts (i + d) p)
  | 0, _ => le_refl _
  | d + 1, h => le_trans (P.mono hw p d (by omega)) ((P.at hw (k := i + d) (by omega)).1 p)
theorem Psd.bd (P : Psd S ways starts ts ms) (hw : WOk starts.length ways) (hS : 0 ≤ S) (h0 : ∀ p x, g starts p = some x → 0 ≤ x ∧ x ≤ S) : ∀ (k p : Nat) (x : Int), lev ts k p = some x → 0 ≤ x ∧ x ≤ S
  | 0, p, x, h => by
    rw [lev_of P.t0] at h
    exact h0 p x h
  | k + 1, p, x, h => by
    have hk : k + 1 < ts.length := by
      unfold lev at h
      cases q : ts[k + 1]? with
      | none => rw [q] at h; cases h
      | some t => exact (List.getElem?_eq_some_iff.mp q).1
    obtain ⟨_, _, m, hm, hml, hn, hs⟩ := P.at hw hk
    by_cases hp : p < starts.length
    · have e : m[p]? = some m[p] := List.getElem?_eq_getElem (by omega)
      cases q : m[p] with
      | none =>
        rw [q] at e
        rw [hn p e] at h
        exact P.bd hw hS h0 k p x h
      | some i =>
        rw [q] at e
        obtain ⟨w, y, b, _, _, _, hb, h5, _⟩ := hs p i e
        rw [h5] at h
        cases h
        exact stepF_bd hS hb
    · have e2 : ts[k + 1]? = some ts[k + 1] := List.getElem?_eq_getElem hk
      rw [lev_of e2, g_out (by rw [P.length hw _ _ e2]; omega)] at h
      cases h

/-! ### lids -/
def Closed (S : Int) (ways : List W3) (L : Nat → Option Int) : Prop := ∀ w ∈ ways, ∀ x b, L w.1 = some x → stepF S x w.2.2 = some b → le (some b) (L w.2.1)
structure Lid (S : Int) (ways : List W3) (base : Tb) (L : Nat → Option Int) : Prop where
  ge : ∀ p, le (g base p) (L p)
  cl : Closed S ways L
structure IsHigh (n : Nat) (S : Int) (ways : List W3) (base T : Tb) : Prop where
  len : T.length = n
  lid : Lid S ways base (g T)
  least : ∀ L, Lid S ways base L → ∀ p, le (g T p) (L p)
theorem IsHigh.unique {base T T' : Tb} (h : IsHigh n S ways base T) (h' : IsHigh n S ways base T') : T = T' :=
  g_ext (by rw [h.len, h'.len]) fun p => le_antisymm (h.least _ h'.lid p) (h'.least _ h.lid p)
theorem Closed.step {L : Nat → Option Int} (c : Closed S ways L) {w : W3} (hw : w ∈ ways) {x y b : Int} (hL : L w.1 = some y) (hx : x ≤ y) (hb : stepF S x w.2.2 = some b) : ∃ z, L w.2.1 = some z ∧ b ≤ z := by
  obtain ⟨b', h1, h2⟩ := stepF_mono hb hx
  obtain ⟨z, h3, h4⟩ := le_some (c w hw y b' hL h1)
  exact ⟨z, h3, by omega⟩
theorem Psd.lid (P : Psd S ways starts ts ms) (hw : WOk starts.length ways) {L : Nat → Option Int} (hL : Lid S ways starts L) : ∀ (k p : Nat), le (lev ts k p) (L p)
  | 0, p => by
    rw [lev_of P.t0]
    exact hL.ge p
  | k + 1, p => by
    cases h : lev ts (k + 1) p with
    | none => exact le_none _
    | some x =>
      have hk : k + 1 < ts.length := by
        unfold lev at h
        cases q : ts[k + 1]? with
        | none => rw [q] at h; cases h
        | some t => exact (List.getElem?_eq_some_iff.mp q).1
      obtain ⟨_, _, m, hm, hml, hn, hs⟩ := P.at hw hk
      by_cases hp : p < starts.length
      · have e : m[p]? = some m[p] := List.getElem?_eq_getElem (by omega)
        cases q : m[p] with
        | none =>
          rw [q] at e
          rw [hn p e] at h
          rw [← h]
          exact P.lid hw hL k p
        | some i =>
          rw [q] at e
          obtain ⟨w, y, b, h1, h2, h3, hb, h5, _⟩ := hs p i e
          rw [h5] at h
          cases h
          have h6 := P.lid hw hL k w.1
          rw [h3] at h6
          obtain ⟨z, hz, hyz⟩ := le_some h6
          obtain ⟨u, hu, hbu⟩ := hL.cl.step (List.mem_of_getElem? h1) hz hyz hb
          rw [← h2, hu]
          exact hbu
      · have e2 : ts[k + 1]? = some ts[k + 1] := List.getElem?_eq_getElem hk
        rw [lev_of e2, g_out (by rw [P.length hw _ _ e2]; omega)] at h
        cases h
end

/-! ### levels along, walks -/
def walkF (S : Int) : Int → List Int → Option Int
  | x, [] => some x
  | x, c :: r => match stepF S x c with
    | none => none
    | some y => walkF S y r
def lvF (S : Int) : Int → List Int → List Int
  | x, [] => [x]
  | x, c :: r => match stepF S x c with
    | none => [x]
    | some y => x :: lvF S y r
theorem walkF_cons {S x c : Int} {r : List Int} {z : Int} (h : walkF S x (c :: r) = some z) : ∃ y, stepF S x c = some y ∧ walkF S y r = some z := by
  unfold walkF at h
  cases q : stepF S x c with
  | none => rw [q] at h; cases h
  | some y => rw [q] at h; exact ⟨y, rfl, h⟩
theorem walkF_append {S : Int} : ∀ (cs ds : List Int) (x : Int), walkF S x (cs ++ ds) = (walkF S x cs).bind fun y => walkF S y ds
  | [], ds, x => rfl
  | c :: r, ds, x => by
    show (match stepF S x c with | none => none | some y => walkF S y (r ++ ds)) = (match stepF S x c with | none => none | some y => walkF S y r).bind _
    cases stepF S x c with
    | none => rfl
    | some y => exact walkF_append r ds y
theorem walkF_bd {S : Int} (hS : 0 ≤ S) : ∀ {cs : List Int} {x y : Int}, 0 ≤ x → x ≤ S → walkF S x cs = some y → 0 ≤ y ∧ y ≤ S
  | [], x, y, h0, h1, h => by cases h; exact ⟨h0, h1⟩
  | c :: r, x, y, h0, h1, h => by
    obtain ⟨z, h2, h3⟩ := walkF_cons h
    have := stepF_bd hS h2
    exact walkF_bd hS this.1 this.2 h3
theorem lvF_ne (S x : Int) (cs : List Int) : lvF S x cs ≠ [] := by
  cases cs with
  | nil => simp [lvF]
  | cons c r =>
    unfold lvF
    cases stepF S x c <;> simp
theorem lvF_len {S : Int} : ∀ (cs : List Int) (x : Int), (lvF S x cs).length ≤ cs.length + 1
  | [], x => Nat.le_refl _
  | c :: r, x => by
    unfold lvF
    cases stepF S x c with
    | none => simp
    | some y =>
      have := lvF_len (S := S) r y
      simp only [List.length_cons]
      omega
/-- not clamped: the sum of the changes -/
theorem walkF_sum {S : Int} : ∀ {cs : List Int} {x y : Int}, walkF S x cs = some y → ¬ S ∈ (lvF S x cs) → y = x + cs.sum
  | [], x, y, h, _ => by cases h; simp
  | c :: r, x, y, h, hn => by
    obtain ⟨z, h2, h3⟩ := walkF_cons h
    have e : lvF S x (c :: r) = x :: lvF S z r := by
      show (match stepF S x c with | none => [x] | some y => x :: lvF S y r) = _
      rw [h2]
    rw [e] at hn
    have hn2 : ¬ S ∈ lvF S z r := fun m => hn (List.mem_cons_of_mem _ m)
    have ih := walkF_sum h3 hn2
    have hz : z ≠ S := fun q => hn2 (by
      subst q
      cases r with
      | nil => simp [lvF]
      | cons c' r' =>
        unfold lvF
        cases stepF z z c' <;> simp)
    obtain ⟨h4, h5⟩ := stepF_some h2
    rw [List.sum_cons]
    split at h5 <;> omega
/-- what stands in the levels is come to by a beginning of the row -/
theorem lvF_at {S : Int} : ∀ {cs : List Int} {x : Int} {j : Nat} {y : Int}, (lvF S x cs)[j]? = some y → j ≤ cs.length ∧ walkF S x (cs.take j) = some y
  | cs, x, 0, y, h => by
    have e : (lvF S x cs)[0]? = some x := by
      cases cs with
      | nil => rfl
      | cons c r =>
        unfold lvF
        cases stepF S x c <;> rfl
    rw [e] at h
    exact ⟨Nat.zero_le _, h⟩
  | [], x, j + 1, y, h => by simp [lvF] at h
  | c :: r, x, j + 1, y, h => by
    have e : lvF S x (c :: r) = (match stepF S x c with | none => [x] | some y => x :: lvF S y r) := rfl
    rw [e] at h
    cases q : stepF S x c with
    | none => rw [q] at h; simp at h
    | some z =>
      rw [q] at h
      obtain ⟨h1, h2⟩ := lvF_at (cs := r) (x := z) (j := j) (y := y) (by simpa using h)
      refine ⟨by simp only [List.length_cons]; omega, ?_⟩
      show (match stepF S x c with | none => none | some y => walkF S y (r.take j)) = some y
      rw [q]
      exact h2

/-! ### effects -/
abbrev Ef := Int × Int × Int
def joinF (a b : Ef) : Option Ef :=
  if a.2.2 < b.1 then none else some (if b.1 - a.2.1 > a.1 then b.1 - a.2.1 else a.1, a.2.1 + b.2.1, if b.2.2 < a.2.2 + b.2.1 then b.2.2 else a.2.2 + b.2.1)
def oneF (S c : Int) : Ef := (if 0 - c > 0 then 0 - c else 0, c, if S + c < S then S + c else S)
def effG (S : Int) : Ef → List Int → Option Ef
  | e, [] => some e
  | e, c :: r => if S + c < 0 then none else match joinF e (oneF S c) with
    | none => none
    | some e' => effG S e' r
structure EInv (S : Int) (pre : List Int) (e : Ef) : Prop where
  l0 : 0 ≤ e.1
  t0 : 0 ≤ e.2.2
  tS : e.2.2 ≤ S
  gs : e.2.1 = pre.sum
  lg : 0 ≤ e.1 + e.2.1
  run : ∀ x, 0 ≤ x → x ≤ S → walkF S x pre = if x < e.1 then none else some (if x + e.2.1 < e.2.2 then x + e.2.1 else e.2.2)
theorem EInv.zero {S : Int} (hS : 0 ≤ S) : EInv S [] (0, 0, S) := by
  refine ⟨Int.le_refl _, hS, Int.le_refl _, rfl, (by show (0:Int) ≤ 0 + 0; omega), fun x h0 h1 => ?_⟩
  show some x = _
  dsimp only
  rw [if_neg (by omega)]
  congr 1
  split <;> omega
theorem walkF_snoc {S x c : Int} {pre : List Int} : walkF S x (pre ++ [c]) = (walkF S x pre).bind fun y => stepF S y c := by
  rw [walkF_append]
  congr 1
  funext y
  unfold walkF
  cases stepF S y c <;> rfl
theorem EInv.step {S c : Int} {pre : List Int} {e e' : Ef} (hS : 0 ≤ S) (I : EInv S pre e) (h0 : ¬ S + c < 0) (hj : joinF e (oneF S c) = some e') : EInv S (pre ++ [c]) e' := by
  obtain ⟨l, gg, t⟩ := e
  obtain ⟨i1, i2, i3, i4, i5, i6⟩ := I
  dsimp only at i1 i2 i3 i4 i5 i6
  unfold joinF oneF at hj
  dsimp only at hj
  by_cases hlt : t < (if 0 - c > 0 then 0 - c else 0)
  · rw [if_pos hlt] at hj
    cases hj
  · rw [if_neg hlt] at hj
    have hj := Option.some.inj hj
    subst hj
    refine ⟨?_, ?_, ?_, ?_, ?_, fun x hx0 hx1 => ?_⟩
    · dsimp only; split <;> split <;> omega
    · dsimp only; split at hlt <;> split <;> split <;> omega
    · dsimp only; split <;> split <;> omega
    · dsimp only; rw [List.sum_append, i4]; simp
    · dsimp only; split <;> split <;> omega
    · rw [walkF_snoc, i6 x hx0 hx1]
      dsimp only
      by_cases hx : x < l
      · rw [if_pos hx, if_pos (by split <;> split <;> omega)]
        rfl
      · rw [if_neg hx]
        show stepF S _ c = _
        unfold stepF
        split <;> split <;> split <;> split <;> (try split) <;> (try split) <;> (try split) <;> first | rfl | (exfalso; omega) | (congr 1; omega)
theorem eff_go {S x y : Int} (hS : 0 ≤ S) (hx0 : 0 ≤ x) (hx1 : x ≤ S) : ∀ {cs pre : List Int} {e : Ef}, EInv S pre e → walkF S x (pre ++ cs) = some y → ∃ e', effG S e cs = some e' ∧ EInv S (pre ++ cs) e'
  | [], pre, e, I, h => ⟨e, rfl, by rw [List.append_nil]; exact I⟩
  | c :: r, pre, e, I, h => by
    have h' := h
    rw [walkF_append, I.run x hx0 hx1] at h'
    by_cases hl : x < e.1
    · rw [if_pos hl] at h'
      cases h'
    · rw [if_neg hl] at h'
      obtain ⟨z, h2, _⟩ := walkF_cons (show walkF S _ (c :: r) = some y from h')
      obtain ⟨h3, _⟩ := stepF_some h2
      have ht := I.tS
      have h0 : ¬ S + c < 0 := by
        intro q
        split at h3 <;> omega
      have hj : ∃ e', joinF e (oneF S c) = some e' := by
        unfold joinF oneF
        dsimp only
        refine ⟨_, if_neg ?_⟩
        intro q
        have := I.t0
        split at h3 <;> split at q <;> omega
      obtain ⟨e', hj⟩ := hj
      have I' := I.step hS h0 hj
      obtain ⟨e'', h4, h5⟩ := eff_go hS hx0 hx1 (cs := r) (pre := pre ++ [c]) I' (by rw [List.append_assoc]; exact h)
      refine ⟨e'', ?_, by rw [List.append_assoc] at h5; exact h5⟩
      show (if S + c < 0 then none else match joinF e (oneF S c) with | none => none | some e' => effG S e' r) = _
      rw [if_neg h0, hj]
      exact h4
/-- a row that can be walked and gives more than it takes: its effect, its gain, and the store is met on the way round from the top -/
theorem round_eff {S x y : Int} {cs : List Int} (hS : 0 ≤ S) (hx0 : 0 ≤ x) (hx1 : x ≤ S) (h : walkF S x cs = some y) (hr : x < y) :
    ∃ l gn t, effG S (0, 0, S) cs = some (l, gn, t) ∧ gn = cs.sum ∧ 0 < gn ∧ 0 ≤ t ∧ t ≤ S ∧ x < t ∧ S ∈ lvF S t cs ∧ ∀ z, x ≤ z → z < t → ∃ z', walkF S z cs = some z' ∧ z < z' := by
  obtain ⟨⟨l, gn, t⟩, h1, I⟩ := eff_go hS hx0 hx1 (EInv.zero hS) h
  rw [List.nil_append] at I
  have r := I.run x hx0 hx1
  have t0 := I.t0
  have tS := I.tS
  have gs := I.gs
  have lg := I.lg
  dsimp only at r t0 tS gs lg
  rw [h] at r
  have hxl : ¬ x < l := fun q => by rw [if_pos q] at r; cases r
  rw [if_neg hxl] at r
  have r := Option.some.inj r
  have hg : 0 < gn := by split at r <;> omega
  have hxt : x < t := by split at r <;> omega
  refine ⟨l, gn, t, h1, gs, hg, t0, tS, hxt, ?_, fun z hz hzt => ?_⟩
  · have rt := I.run t t0 tS
    dsimp only at rt
    rw [if_neg (by omega), if_neg (by omega)] at rt
    refine Classical.byContradiction fun q => ?_
    have := walkF_sum rt q
    omega
  · have rz := I.run z (by omega) (by omega)
    dsimp only at rz
    rw [if_neg (by omega)] at rz
    refine ⟨_, rz, ?_⟩
    split <;> omega

/-! ### paths through the tables -/
section
variable {S : Int} {ways : List W3} {starts : Tb} {ts : List Tb} {ms : List (List (Option Nat))} {n : Nat}
def endOf (ways : List W3) (i : Nat) : Nat := match ways[i]? with
  | some w => w.2.1
  | none => 0
def chgOf (ways : List W3) (i : Nat) : Int := match ways[i]? with
  | some w => w.2.2
  | none => 0
def plA (ways : List W3) (p : Nat) (ws : List Nat) : List Nat := p :: ws.map (endOf ways)
def csA (ways : List W3) (ws : List Nat) : List Int := ws.map (chgOf ways)
def Path (S : Int) (ways : List W3) (ts : List Tb) : Nat → Nat → List Nat → Prop
  | _, _, [] => True
  | k, p, i :: r => ∃ (w : W3) (x b : Int), ways[i]? = some w ∧ w.1 = p ∧ lev ts k p = some x ∧ stepF S x w.2.2 = some b ∧ lev ts (k + 1) w.2.1 = some b ∧ (∀ u, lev ts k w.2.1 = some u → u < b) ∧ Path S ways ts (k + 1) w.2.1 r
theorem Path.drop : ∀ {ws : List Nat} {k p : Nat} (i : Nat), Path S ways ts k p ws → i ≤ ws.length → ∃ q, (plA ways p ws)[i]? = some q ∧ Path S ways ts (k + i) q (ws.drop i) ∧ (plA ways p ws).drop i = plA ways q (ws.drop i)
  | ws, k, p, 0, h, _ => ⟨p, rfl, h, rfl⟩
  | [], k, p, i + 1, h, hi => by simp at hi
  | a :: r, k, p, i + 1, h, hi => by
    obtain ⟨w, x, b, h1, h2, h3, h4, h5, h6, h7⟩ := h
    obtain ⟨q, a1, a2, a3⟩ := Path.drop (ws := r) i h7 (by simpa using hi)
    have e : plA ways p (a :: r) = p :: plA ways w.2.1 r := by
      unfold plA
      simp [endOf, h1]
    refine ⟨q, by rw [e]; simpa using a1, by simpa [Nat.add_assoc, Nat.add_comm 1 i] using a2, by rw [e]; simpa using a3⟩
/-- walked along, the levels are the tables' own -/
theorem Path.walk : ∀ {ws : List Nat} {k p : Nat} {x : Int} (m : Nat), Path S ways ts k p ws → m ≤ ws.length → lev ts k p = some x → ∃ q y, (plA ways p ws)[m]? = some q ∧ lev ts (k + m) q = some y ∧ walkF S x (csA ways (ws.take m)) = some y
  | ws, k, p, x, 0, h, _, hx => ⟨p, x, rfl, hx, by simp [csA, walkF]⟩
  | [], k, p, x, m + 1, h, hm, hx => by simp at hm
  | a :: r, k, p, x, m + 1, h, hm, hx => by
    obtain ⟨w, x', b, h1, h2, h3, h4, h5, h6, h7⟩ := h
    rw [hx] at h3
    cases h3
    obtain ⟨q, y, a1, a2, a3⟩ := Path.walk (ws := r) m h7 (by simpa using hm) h5
    have e : plA ways p (a :: r) = p :: plA ways w.2.1 r := by
      unfold plA
      simp [endOf, h1]
    refine ⟨q, y, by rw [e]; simpa using a1, by simpa [Nat.add_assoc, Nat.add_comm 1 m] using a2, ?_⟩
    have e2 : csA ways ((a :: r).take (m + 1)) = w.2.2 :: csA ways (r.take m) := by
      unfold csA
      simp [chgOf, h1]
    rw [e2]
    show (match stepF S x w.2.2 with | none => none | some y => walkF S y _) = _
    rw [h4]
    exact a3
/-- the place behind m ways rose in the pass m -/
theorem Path.rose : ∀ {ws : List Nat} {k p : Nat} (m : Nat), Path S ways ts k p ws → m < ws.length → ∃ q b, (plA ways p ws)[m + 1]? = some q ∧ lev ts (k + m + 1) q = some b ∧ ∀ u, lev ts (k + m) q = some u → u < b
  | [], k, p, m, h, hm => by simp at hm
  | a :: r, k, p, 0, h, _ => by
    obtain ⟨w, x, b, h1, h2, h3, h4, h5, h6, h7⟩ := h
    refine ⟨w.2.1, b, ?_, h5, h6⟩
    unfold plA
    simp [endOf, h1]
  | a :: r, k, p, m + 1, h, hm => by
    obtain ⟨w, x, b, h1, h2, h3, h4, h5, h6, h7⟩ := h
    obtain ⟨q, y, a1, a2, a3⟩ := Path.rose (ws := r) m h7 (by simpa using hm)
    have e : plA ways p (a :: r) = p :: plA ways w.2.1 r := by
      unfold plA
      simp [endOf, h1]
    have e2 : k + (m + 1) = k + 1 + m := by omega
    refine ⟨q, y, by rw [e]; simpa using a1, by rw [e2]; exact a2, by rw [e2]; exact a3⟩
/-- a lid along a path: what is walked from its level, or less, it has at the end, or more -/
theorem Path.lidw {L : Nat → Option Int} (hc : Closed S ways L) : ∀ {ws : List Nat} {k p : Nat} {y z u : Int} (m : Nat), Path S ways ts k p ws → m ≤ ws.length → L p = some u → y ≤ u → walkF S y (csA ways (ws.take m)) = some z →
    ∃ q v, (plA ways p ws)[m]? = some q ∧ L q = some v ∧ z ≤ v
  | ws, k, p, y, z, u, 0, h, _, hu, hy, hz => by
    have e : y = z := by simpa [csA, walkF] using hz
    exact ⟨p, u, rfl, hu, by omega⟩
  | [], k, p, y, z, u, m + 1, h, hm, hu, hy, hz => by simp at hm
  | a :: r, k, p, y, z, u, m + 1, h, hm, hu, hy, hz => by
    obtain ⟨w, x', b, h1, h2, h3, h4, h5, h6, h7⟩ := h
    have e : plA ways p (a :: r) = p :: plA ways w.2.1 r := by
      unfold plA
      simp [endOf, h1]
    have e2 : csA ways ((a :: r).take (m + 1)) = w.2.2 :: csA ways (r.take m) := by
      unfold csA
      simp [chgOf, h1]
    rw [e2] at hz
    obtain ⟨y', hs, hz'⟩ := walkF_cons hz
    obtain ⟨v', hv', hb'⟩ := hc.step (List.mem_of_getElem? h1) (by rw [h2]; exact hu) hy hs
    obtain ⟨q, v, a1, a2, a3⟩ := Path.lidw hc (ws := r) m h7 (by simpa using hm) hv' hb' hz'
    exact ⟨q, v, by rw [e]; simpa using a1, a2, a3⟩
/-- THE ROUND: a path that comes back to its place has risen, and so on -/
theorem round_ok (P : Psd S ways starts ts ms) (hw : WOk starts.length ways) (hS : 0 ≤ S) (h0 : ∀ p x, g starts p = some x → 0 ≤ x ∧ x ≤ S) {us : List Nat} {k p m : Nat} (hp : Path S ways ts k p us) (hkl : k + us.length < ts.length) (h1 : 1 ≤ m) (hm : m ≤ us.length)
    (hq : (plA ways p us)[m]? = some p) :
    ∃ l gn t, effG S (0, 0, S) (csA ways (us.take m)) = some (l, gn, t) ∧ gn = (csA ways (us.take m)).sum ∧ 0 < gn ∧ 0 ≤ t ∧ t ≤ S ∧ S ∈ lvF S t (csA ways (us.take m)) ∧
      ∀ on : Nat, (lvF S t (csA ways (us.take m)))[on]? = some S → on ≤ m ∧ ∃ q, (plA ways p us)[on]? = some q ∧ g starts q ≠ some S ∧ ∀ L, Lid S ways starts L → le (some S) (L q) := by
  -- the level at the place, and behind the round
  have hx : ∃ x, lev ts k p = some x := by
    cases us with
    | nil => simp at hm; omega
    | cons a r =>
      obtain ⟨w, x, b, _, _, h3, _⟩ := hp
      exact ⟨x, h3⟩
  obtain ⟨x, hx⟩ := hx
  obtain ⟨q, y, a1, a2, a3⟩ := hp.walk m hm hx
  rw [hq] at a1
  cases a1
  obtain ⟨m', rfl⟩ : ∃ m', m = m' + 1 := ⟨m - 1, by omega⟩
  obtain ⟨q, b, b1, b2, b3⟩ := hp.rose m' (by omega)
  rw [hq] at b1
  cases b1
  have eb : y = b := by
    have : k + (m' + 1) = k + m' + 1 := by omega
    rw [this, b2] at a2
    exact (Option.some.inj a2).symm
  subst eb
  have hxy : x < y := by
    have mo := P.mono hw (i := k) p m' (by omega)
    rw [hx] at mo
    obtain ⟨u, hu, hxu⟩ := le_some mo
    have := b3 u hu
    omega
  have hxb := P.bd hw hS h0 k p x hx
  obtain ⟨l, gn, t, e1, e2, e3, e4, e5, e6, e7, e8⟩ := round_eff hS hxb.1 hxb.2 a3 hxy
  refine ⟨l, gn, t, e1, e2, e3, e4, e5, e7, fun on hon => ?_⟩
  obtain ⟨o1, o2⟩ := lvF_at hon
  have o1 : on ≤ m' + 1 := by
    unfold csA at o1
    rw [List.length_map, List.length_take] at o1
    omega
  have ot : (csA ways (us.take (m' + 1))).take on = csA ways (us.take on) := by
    unfold csA
    rw [← List.map_take, List.take_take, Nat.min_eq_left o1]
  rw [ot] at o2
  refine ⟨o1, ?_⟩
  obtain ⟨r, hr, _⟩ := hp.drop on (by omega)
  refine ⟨r, hr, ?_, fun L hL => ?_⟩
  · -- it was not full at the start
    intro hf
    have key : ∀ d, d < us.length → (plA ways p us)[d + 1]? = some r → False := fun d hd hdr => by
      obtain ⟨q, b, c1, c2, c3⟩ := hp.rose d hd
      rw [hdr] at c1
      cases c1
      have hb := P.bd hw hS h0 _ _ _ c2
      have mo := P.mono hw (i := 0) r (k + d) (by omega)
      rw [lev_of P.t0, hf] at mo
      obtain ⟨u, hu, hSu⟩ := le_some mo
      have := c3 u (by rw [← hu]; congr 1; omega)
      omega
    cases on with
    | zero =>
      have : p = r := Option.some.inj hr
      subst this
      exact key m' (by omega) hq
    | succ d => exact key d (by omega) hr
  · -- a lid has the store there
    have g1 := P.lid hw hL k p
    rw [hx] at g1
    obtain ⟨z, hz, hxz⟩ := le_some g1
    have htz : t ≤ z := by
      refine Classical.byContradiction fun hn => ?_
      obtain ⟨z', w1, w2⟩ := e8 z hxz (by omega)
      obtain ⟨q, v, c1, c2, c3⟩ := hp.lidw hL.cl (m' + 1) hm hz (Int.le_refl z) w1
      rw [hq] at c1
      cases c1
      rw [hz] at c2
      cases c2
      omega
    obtain ⟨q, v, c1, c2, c3⟩ := hp.lidw hL.cl on (by omega) hz htz o2
    rw [hr] at c1
    cases c1
    rw [c2]
    exact c3
end
end Tr


set_option autoImplicit false
set_option linter.all false
/-! Plain law of trudge, part 2: walking back, filling, the highest levels, their order; the ways by labels. -/
namespace Tr
section
variable {S : Int} {ways : List W3} {starts : Tb} {ts : List Tb} {ms : List (List (Option Nat))} {n : Nat}
/-- one way back -/
theorem back (P : Psd S ways starts ts ms) (hw : WOk starts.length ways) {k p i : Nat} {r : List Nat} {m : List (Option Nat)} (hk : k + 1 < ts.length) (hm : ms[k + 1]? = some m) (hi : m[p]? = some (some i)) (hp : Path S ways ts (k + 1) p r) :
    ∃ w, ways[i]? = some w ∧ w.1 < starts.length ∧ Path S ways ts k w.1 (i :: r) ∧ (1 ≤ k → ∃ m' i', ms[k]? = some m' ∧ m'[w.1]? = some (some i')) := by
  obtain ⟨_, _, m1, h1, h2, _, h4⟩ := P.at hw hk
  rw [hm] at h1
  cases h1
  obtain ⟨w, x, b, a1, a2, a3, a4, a5, a6⟩ := h4 p i hi
  have hwm : w ∈ ways := List.mem_of_getElem? a1
  have hlt := (hw w hwm).1
  refine ⟨w, a1, hlt, ⟨w, x, b, a1, rfl, a3, a4, by rw [a2]; exact a5, fun u hu => a6 u (by rw [← a2]; exact hu), by rw [a2]; exact hp⟩, fun h1k => ?_⟩
  obtain ⟨k0, rfl⟩ : ∃ k0, k = k0 + 1 := ⟨k - 1, by omega⟩
  obtain ⟨_, c2, m2, c3, c4, c5, c6⟩ := P.at hw (k := k0) (by omega)
  have e : m2[w.1]? = some m2[w.1] := List.getElem?_eq_getElem (by omega)
  cases q : m2[w.1] with
  | some i' =>
    rw [q] at e
    exact ⟨m2, i', c3, e⟩
  | none =>
    rw [q] at e
    have l1 := c5 w.1 e
    rw [a3] at l1
    have l2 := c2 w hwm x b l1.symm a4
    rw [a2] at l2
    obtain ⟨u, hu, hbu⟩ := le_some l2
    have := a6 u hu
    omega
/-- what walk_to keeps, behind i of the rows made (from the last) -/
structure WkInv (S : Int) (ways : List W3) (ts : List Tb) (ms : List (List (Option Nat))) (n i p : Nat) (acc : List Nat) : Prop where
  pn : p < n
  st : ∃ k, k + acc.length + 1 = ts.length ∧ (i + 1 ≤ ts.length → k + i + 1 = ts.length) ∧ (ts.length ≤ i → k = 0) ∧ Path S ways ts k p acc.reverse ∧ (1 ≤ k → ∃ m j, ms[k]? = some m ∧ m[p]? = some (some j))
theorem WkInv.zero {p : Nat} (hl : 1 ≤ ts.length) (hp : p < n) (h : 2 ≤ ts.length → ∃ m j, ms[ts.length - 1]? = some m ∧ m[p]? = some (some j)) : WkInv S ways ts ms n 0 p [] :=
  ⟨hp, ts.length - 1, by simp; omega, fun _ => by omega, fun h => by omega, trivial, fun h1 => h (by omega)⟩
/-- a row made, from behind: nothing is made at the place, or a way leads to it -/
theorem WkInv.turn (P : Psd S ways starts ts ms) (hw : WOk starts.length ways) {i p : Nat} {acc : List Nat} {m : List (Option Nat)} (I : WkInv S ways ts ms starts.length i p acc) (hm : ms.reverse[i]? = some m) :
    ∃ o, m[p]? = some o ∧ (o = none → WkInv S ways ts ms starts.length (i + 1) p acc) ∧ ∀ j, o = some j → ∃ w, ways[j]? = some w ∧ WkInv S ways ts ms starts.length (i + 1) w.1 (acc ++ [j]) := by
  obtain ⟨hp, k, h1, h2, h3, h4, h5⟩ := I
  have hi : i < ms.length := by
    have := (List.getElem?_eq_some_iff.mp hm).1
    rwa [List.length_reverse] at this
  have hlen := P.len
  rw [List.getElem?_reverse hi] at hm
  have hk := h2 (by omega)
  have ek : ms.length - 1 - i = k := by omega
  rw [ek] at hm
  cases k with
  | zero =>
    rw [P.m0] at hm
    cases hm
    refine ⟨none, by rw [List.getElem?_replicate, if_pos hp], fun _ => ⟨hp, 0, h1, fun _ => by omega, fun _ => rfl, h4, fun z => by omega⟩, fun j hj => by cases hj⟩
  | succ k =>
    obtain ⟨m', j, a1, a2⟩ := h5 (by omega)
    rw [hm] at a1
    cases a1
    refine ⟨some j, a2, fun h => (by cases h), fun j' hj => ?_⟩
    cases hj
    obtain ⟨w, b1, b2, b3, b4⟩ := back P hw (by omega) hm a2 h4
    refine ⟨w, b1, b2, k, by simp; omega, fun _ => by omega, fun _ => by omega, ?_, b4⟩
    rw [List.reverse_append]
    exact b3

/-- some place rose in the last pass -/
theorem Psd.risen (P : Psd S ways starts ts ms) (hw : WOk starts.length ways) {k : Nat} {t t' : Tb} (h1 : ts[k]? = some t) (h2 : ts[k + 1]? = some t') (hne : t' ≠ t) : ∃ m, ms[k + 1]? = some m ∧ m.length = starts.length ∧ ∃ p j, p < starts.length ∧ m[p]? = some (some j) := by
  have hk : k + 1 < ts.length := (List.getElem?_eq_some_iff.mp h2).1
  obtain ⟨_, _, m, a1, a2, a3, _⟩ := P.at hw hk
  refine ⟨m, a1, a2, Classical.byContradiction fun hn => hne ?_⟩
  refine g_ext (by rw [P.length hw _ _ h1, P.length hw _ _ h2]) fun p => ?_
  by_cases hp : p < starts.length
  · have e : m[p]? = some m[p] := List.getElem?_eq_getElem (by omega)
    cases q : m[p] with
    | some j => rw [q] at e; exact (hn ⟨p, j, hp, e⟩).elim
    | none =>
      rw [q] at e
      have := a3 p e
      rw [lev_of h1, lev_of h2] at this
      exact this
  · rw [g_out (t := t') (by rw [P.length hw _ _ h2]; omega), g_out (t := t) (by rw [P.length hw _ _ h1]; omega)]

theorem Psd.zero {S : Int} {ways : List W3} {starts : Tb} : Psd S ways starts [starts] [List.replicate starts.length none] :=
  ⟨rfl, rfl, rfl, fun i t t' _ h2 => by simp at h2⟩
/-- one pass more -/
theorem Psd.snoc (P : Psd S ways starts ts ms) {t : Tb} (h : ts[ts.length - 1]? = some t) : Psd S ways starts (ts ++ [(goF S ways t).1]) (ms ++ [(goF S ways t).2]) := by
  have h0 : 0 < ts.length := (List.getElem?_eq_some_iff.mp P.t0).1
  have hl := P.len
  refine ⟨by rw [List.getElem?_append_left h0]; exact P.t0, by rw [List.getElem?_append_left (by omega)]; exact P.m0, by simp [hl], fun i u u' h1 h2 => ?_⟩
  by_cases q : i + 1 < ts.length
  · rw [List.getElem?_append_left (by omega)] at h1
    rw [List.getElem?_append_left q] at h2
    rw [List.getElem?_append_left (by omega)]
    exact P.nx i u u' h1 h2
  · have hi : i + 1 < (ts ++ [(goF S ways t).1]).length := (List.getElem?_eq_some_iff.mp h2).1
    have e : i + 1 = ts.length := by simp at hi; omega
    have e1 : i = ts.length - 1 := by omega
    rw [List.getElem?_append_left (by omega), e1, h] at h1
    cases h1
    rw [e, List.getElem?_append_right (Nat.le_refl _)] at h2
    have h2 : (goF S ways t).1 = u' := by simpa using h2
    rw [e, ← hl, List.getElem?_append_right (Nat.le_refl _)]
    exact ⟨h2.symm, by simp⟩

/-! ### more places than there are -/
theorem pigeon : ∀ (n : Nat) (l : List Nat), l.Nodup → (∀ x ∈ l, x < n) → l.length ≤ n
  | 0, l, _, h => by
    cases l with
    | nil => exact Nat.le_refl _
    | cons a r => exact absurd (h a (List.mem_cons_self ..)) (Nat.not_lt_zero _)
  | n + 1, l, hd, h => by
    by_cases hm : n ∈ l
    · have h1 := pigeon n (l.erase n) (hd.erase n) fun x hx => by
        have h2 := (hd.mem_erase_iff).mp hx
        have h3 := h x h2.2
        have h4 := h2.1
        omega
      rw [List.length_erase_of_mem hm] at h1
      omega
    · have h1 := pigeon n l hd fun x hx => by
        have h3 := h x hx
        have h4 : x ≠ n := fun e => hm (e ▸ hx)
        omega
      omega
theorem path_places (hw : WOk n ways) : ∀ {ws : List Nat} {k p : Nat}, p < n → Path S ways ts k p ws → ∀ x ∈ plA ways p ws, x < n
  | [], k, p, hp, _, x, hx => by
    have : x = p := by simpa [plA] using hx
    omega
  | a :: r, k, p, hp, h, x, hx => by
    obtain ⟨w, x', b, h1, h2, h3, h4, h5, h6, h7⟩ := h
    have e : plA ways p (a :: r) = p :: plA ways w.2.1 r := by
      unfold plA
      simp [endOf, h1]
    rw [e] at hx
    rcases List.mem_cons.mp hx with q | q
    · omega
    · exact path_places hw (hw w (List.mem_of_getElem? h1)).2 h7 x q

/-! ### beginnings filled -/
structure HInv (n : Nat) (S : Int) (ways : List W3) (base starts : Tb) : Prop where
  len : starts.length = n
  bd : ∀ p x, g starts p = some x → 0 ≤ x ∧ x ≤ S
  ge : ∀ p, le (g base p) (g starts p)
  lid : ∀ L, Lid S ways base L → ∀ p, le (g starts p) (L p)
theorem HInv.lids {base : Tb} (I : HInv n S ways base starts) {L : Nat → Option Int} (h : Lid S ways base L) : Lid S ways starts L := ⟨I.lid L h, h.cl⟩
def lack (S : Int) (t : Tb) : Nat := (t.filter fun o => decide (o ≠ some S)).length
theorem lack_set {S : Int} : ∀ {t : Tb} {q : Nat}, q < t.length → g t q ≠ some S → lack S (t.set q (some S)) < lack S t
  | [], q, h, _ => by simp at h
  | o :: r, 0, _, hn => by
    have hn : o ≠ some S := fun e => hn (by subst e; rfl)
    have e1 : (some S :: r).filter (fun o => decide (o ≠ some S)) = r.filter fun o => decide (o ≠ some S) := List.filter_cons_of_neg (by simp)
    have e2 : (o :: r).filter (fun o => decide (o ≠ some S)) = o :: r.filter fun o => decide (o ≠ some S) := List.filter_cons_of_pos (by simp [hn])
    show ((some S :: r).filter fun o => decide (o ≠ some S)).length < ((o :: r).filter fun o => decide (o ≠ some S)).length
    rw [e1, e2, List.length_cons]
    omega
  | o :: r, q + 1, h, hn => by
    have ih := lack_set (S := S) (t := r) (q := q) (Nat.lt_of_succ_lt_succ h) (by simpa [g] using hn)
    have ih : ((r.set q (some S)).filter fun o => decide (o ≠ some S)).length < (r.filter fun o => decide (o ≠ some S)).length := ih
    show ((o :: r.set q (some S)).filter fun o => decide (o ≠ some S)).length < ((o :: r).filter fun o => decide (o ≠ some S)).length
    rw [List.filter_cons, List.filter_cons]
    split
    · rw [List.length_cons, List.length_cons]
      omega
    · exact ih
theorem HInv.zero {base : Tb} (h1 : base.length = n) (h2 : ∀ p x, g base p = some x → 0 ≤ x ∧ x ≤ S) : HInv n S ways base base := ⟨h1, h2, fun p => le_refl _, fun L hL p => hL.ge p⟩
theorem HInv.set {base : Tb} (hS : 0 ≤ S) (I : HInv n S ways base starts) {q : Nat} (hq : q < n) (hl : ∀ L, Lid S ways starts L → le (some S) (L q)) : HInv n S ways base (starts.set q (some S)) := by
  have hq' : q < starts.length := by rw [I.len]; exact hq
  refine ⟨by simpa using I.len, fun p x h => ?_, fun p => ?_, fun L hL p => ?_⟩
  · rw [g_set hq'] at h
    by_cases e : p = q
    · rw [if_pos e] at h
      cases h
      omega
    · rw [if_neg e] at h
      exact I.bd p x h
  · rw [g_set hq']
    by_cases e : p = q
    · rw [if_pos e, e]
      cases h : g base q with
      | none => exact le_none _
      | some y =>
        have := I.ge q
        rw [h] at this
        obtain ⟨z, hz, hyz⟩ := le_some this
        have := I.bd q z hz
        exact some_le (by omega)
    · rw [if_neg e]
      exact I.ge p
  · rw [g_set hq']
    by_cases e : p = q
    · rw [if_pos e, e]
      exact hl L (I.lids hL)
    · rw [if_neg e]
      exact I.lid L hL p
/-- the last pass raised nothing: the highest levels -/
theorem HInv.high {base T T' : Tb} {k : Nat} (I : HInv n S ways base starts) (hw : WOk n ways) (P : Psd S ways starts ts ms) (h1 : ts[k]? = some T) (h2 : ts[k + 1]? = some T') (he : T' = T) : IsHigh n S ways base T' := by
  have hl := I.len
  subst hl
  have hk : k + 1 < ts.length := (List.getElem?_eq_some_iff.mp h2).1
  obtain ⟨_, c2, _⟩ := P.at hw hk
  subst he
  refine ⟨P.length hw _ _ h2, ⟨fun p => le_trans (I.ge p) ?_, fun w hm x b hx hb => ?_⟩, fun L hL p => ?_⟩
  · have := P.mono hw (i := 0) p (k + 1) (by omega)
    rw [lev_of P.t0, Nat.zero_add, lev_of h2] at this
    exact this
  · have := c2 w hm x b (by rw [lev_of h1]; exact hx) hb
    rw [lev_of h2] at this
    exact this
  · have := P.lid hw (I.lids hL) (k + 1) p
    rw [lev_of h2] at this
    exact this
end

/-! ### a land's ways in another order of levels -/
def turnW (ways : List W3) : List W3 := ways.map fun w => (w.2.1, w.1, w.2.2)
def full (S : Int) (t : Tb) : Tb := t.map fun o => o.map fun x => S - x
theorem g_full {S : Int} {t : Tb} {p : Nat} : g (full S t) p = (g t p).map fun x => S - x := by
  unfold g full
  rw [List.getElem?_map]
  cases t[p]? with
  | none => rfl
  | some o => cases o <;> rfl
theorem full_len {S : Int} {t : Tb} : (full S t).length = t.length := by unfold full; simp
theorem turnW_ok {n : Nat} {ways : List W3} (h : WOk n ways) : WOk n (turnW ways) := fun w hm => by
  obtain ⟨v, hv, e⟩ := List.mem_map.mp hm
  subst e
  exact ⟨(h v hv).2, (h v hv).1⟩
def IsLeast (n : Nat) (S : Int) (ways : List W3) (goal known : Tb) : Prop := ∃ T, IsHigh n S (turnW ways) (full S goal) T ∧ known = full S T
theorem IsLeast.unique {n : Nat} {S : Int} {ways : List W3} {goal k k' : Tb} (h : IsLeast n S ways goal k) (h' : IsLeast n S ways goal k') : k = k' := by
  obtain ⟨T, h1, rfl⟩ := h
  obtain ⟨T', h2, rfl⟩ := h'
  rw [h1.unique h2]
theorem IsLeast.len {n : Nat} {S : Int} {ways : List W3} {goal k : Tb} (h : IsLeast n S ways goal k) : k.length = n := by
  obtain ⟨T, h1, rfl⟩ := h
  rw [full_len, h1.len]
/-- whether a level is less than another, None more than each -/
def lessB : Option Int → Option Int → Bool
  | none, _ => false
  | some _, none => true
  | some a, some b => decide (a < b)
/-- nowhere more behind than ahead -/
def NoRise (old new : Tb) : Prop := ∀ p, lessB (g old p) (g new p) = false
/-- each way of the one is in the other, with its change or a greater one -/
def Cov (ways ways' : List W3) : Prop := ∀ w ∈ ways, ∃ w' ∈ ways', w'.1 = w.1 ∧ w'.2.1 = w.2.1 ∧ w.2.2 ≤ w'.2.2
theorem Cov.turn {ways ways' : List W3} (h : Cov ways ways') : Cov (turnW ways) (turnW ways') := fun w hm => by
  obtain ⟨v, hv, e⟩ := List.mem_map.mp hm
  subst e
  obtain ⟨v', h1, h2, h3, h4⟩ := h v hv
  exact ⟨_, List.mem_map.mpr ⟨v', h1, rfl⟩, h3, h2, h4⟩
theorem Cov.closed {S : Int} {ways ways' : List W3} {L : Nat → Option Int} (h : Cov ways ways') (c : Closed S ways' L) : Closed S ways L := fun w hm x b hx hb => by
  obtain ⟨w', h1, h2, h3, h4⟩ := h w hm
  obtain ⟨h5, h6⟩ := stepF_some hb
  have hs : ∃ b', stepF S x w'.2.2 = some b' ∧ b ≤ b' := ⟨_, if_neg (by omega), by split at h6 <;> split <;> omega⟩
  obtain ⟨b', h7, h8⟩ := hs
  have := c w' h1 x b' (by rw [h2]; exact hx) h7
  rw [h3] at this
  exact le_trans (some_le h8) this
theorem full_norise {S : Int} {T T' : Tb} (h : ∀ p, le (g T p) (g T' p)) : NoRise (full S T) (full S T') := fun p => by
  rw [g_full, g_full]
  have := h p
  cases a : g T p with
  | none => rfl
  | some x =>
    rw [a] at this
    obtain ⟨y, hy, hxy⟩ := le_some this
    rw [hy]
    show decide (S - x < S - y) = false
    exact decide_eq_false (by omega)
theorem norise_ways {n : Nat} {S : Int} {ways ways' : List W3} {goal k k' : Tb} (hc : Cov ways ways') (h : IsLeast n S ways goal k) (h' : IsLeast n S ways' goal k') : NoRise k k' := by
  obtain ⟨T, h1, rfl⟩ := h
  obtain ⟨T', h2, rfl⟩ := h'
  exact full_norise (h1.least (g T') ⟨h2.lid.ge, hc.turn.closed h2.lid.cl⟩)
theorem norise_store {n : Nat} {S S' : Int} {ways : List W3} {goal k k' : Tb} (h00 : 0 ≤ S) (hS : S ≤ S') (hg : ∀ p x, g goal p = some x → x ≤ S) (h : IsLeast n S ways goal k) (h' : IsLeast n S' ways goal k') : NoRise k k' := by
  obtain ⟨T, h1, rfl⟩ := h
  obtain ⟨T', h2, rfl⟩ := h'
  -- the lid of the greater store, lowered
  let L : Nat → Option Int := fun p => (g T' p).bind fun y => if S' - S ≤ y then some (y - (S' - S)) else none
  have hL : ∀ p y, g T' p = some y → S' - S ≤ y → L p = some (y - (S' - S)) := fun p y e h => by
    show (g T' p).bind _ = _
    rw [e]
    exact if_pos h
  have lid : Lid S (turnW ways) (full S goal) L := by
    refine ⟨fun p => ?_, fun w hm x b hx hb => ?_⟩
    · rw [g_full]
      cases a : g goal p with
      | none => exact le_none _
      | some x =>
        have := h2.lid.ge p
        rw [g_full, a] at this
        obtain ⟨y, hy, hxy⟩ := le_some (show le (some (S' - x)) (g T' p) from this)
        have := hg p x a
        rw [hL p y hy (by omega)]
        show S - x ≤ y - (S' - S)
        omega
    · have hx' : ∃ y, g T' w.1 = some y ∧ S' - S ≤ y ∧ x = y - (S' - S) := by
        cases e : g T' w.1 with
        | none =>
          have hx : (g T' w.1).bind (fun y => if S' - S ≤ y then some (y - (S' - S)) else none) = some x := hx
          rw [e] at hx
          cases hx
        | some y =>
          have hx : (g T' w.1).bind (fun y => if S' - S ≤ y then some (y - (S' - S)) else none) = some x := hx
          rw [e] at hx
          have hx : (if S' - S ≤ y then some (y - (S' - S)) else none) = some x := hx
          by_cases q : S' - S ≤ y
          · rw [if_pos q] at hx
            exact ⟨y, rfl, q, (Option.some.inj hx).symm⟩
          · rw [if_neg q] at hx
            cases hx
      obtain ⟨y, hy, hq, rfl⟩ := hx'
      obtain ⟨h5, h6⟩ := stepF_some hb
      have hs : stepF S' y w.2.2 = some (if y + w.2.2 < S' then y + w.2.2 else S') := if_neg (by omega)
      have := h2.lid.cl w hm y _ hy hs
      obtain ⟨z, hz, hbz⟩ := le_some this
      have hbz' : b + (S' - S) ≤ z := by split at h6 <;> split at hbz <;> omega
      have hb0 : S' - S ≤ z := by
        have := (stepF_bd h00 hb).1
        omega
      rw [hL _ z hz hb0]
      show b ≤ z - (S' - S)
      omega
  intro p
  rw [g_full, g_full]
  have := h1.least L lid p
  cases a : g T p with
  | none => rfl
  | some x =>
    rw [a] at this
    obtain ⟨y, hy, hxy⟩ := le_some this
    have hx' : ∃ z, g T' p = some z ∧ y = z - (S' - S) := by
      cases e : g T' p with
      | none =>
        have hy : (g T' p).bind (fun y => if S' - S ≤ y then some (y - (S' - S)) else none) = some y := hy
        rw [e] at hy
        cases hy
      | some z =>
        have hy : (g T' p).bind (fun y => if S' - S ≤ y then some (y - (S' - S)) else none) = some y := hy
        rw [e] at hy
        have hy : (if S' - S ≤ z then some (z - (S' - S)) else none) = some y := hy
        by_cases q : S' - S ≤ z
        · rw [if_pos q] at hy
          exact ⟨z, rfl, (Option.some.inj hy).symm⟩
        · rw [if_neg q] at hy
          cases hy
    obtain ⟨z, hz, e⟩ := hx'
    rw [hz]
    show decide (S - x < S' - z) = false
    exact decide_eq_false (by omega)
def movedL (n : Nat) (old new : Tb) : List Nat := (List.range n).filter fun p => lessB (g old p) (g new p)
theorem movedL_nil {n : Nat} {old new : Tb} (h : NoRise old new) : movedL n old new = [] := by
  unfold movedL
  rw [List.filter_eq_nil_iff]
  intro p _
  rw [h p]
  simp

/-! ### ways by labels: sorted lists of pairs -/
abbrev Mp := List (Int × W3)
def lk (M : Mp) (l : Int) : Option W3 := (M.find? fun q => decide (q.1 = l)).map (·.2)
def Srt (M : Mp) : Prop := (M.map (·.1)).Pairwise (· < ·)
def insM (l : Int) (w : W3) : Mp → Mp
  | [] => [(l, w)]
  | q :: r => if l < q.1 then (l, w) :: q :: r else if l = q.1 then (l, w) :: r else q :: insM l w r
def delM (l : Int) (M : Mp) : Mp := M.filter fun q => decide (q.1 ≠ l)
theorem lk_cons {q : Int × W3} {r : Mp} {l : Int} : lk (q :: r) l = if q.1 = l then some q.2 else lk r l := by
  unfold lk
  rw [List.find?_cons]
  by_cases h : q.1 = l
  · rw [if_pos h]; simp [h]
  · rw [if_neg h]; simp [h]
theorem lk_ins {l : Int} {w : W3} : ∀ {M : Mp} {k : Int}, lk (insM l w M) k = if k = l then some w else lk M k
  | [], k => by
    show lk [(l, w)] k = _
    rw [lk_cons]
    by_cases h : k = l
    · rw [if_pos h, if_pos h.symm]
    · rw [if_neg h, if_neg fun e => h e.symm]
  | q :: r, k => by
    unfold insM
    by_cases h1 : l < q.1
    · rw [if_pos h1, lk_cons]
      by_cases h : k = l
      · rw [if_pos h, if_pos h.symm]
      · rw [if_neg h, if_neg fun e => h e.symm]
    · rw [if_neg h1]
      by_cases h2 : l = q.1
      · rw [if_pos h2, lk_cons, lk_cons]
        by_cases h : k = l
        · rw [if_pos h, if_pos h.symm]
        · rw [if_neg h, if_neg fun e => h e.symm, if_neg fun e => h (by omega)]
      · rw [if_neg h2, lk_cons, lk_ins, lk_cons]
        by_cases h : k = l
        · rw [if_pos h, if_pos h, if_neg (by omega)]
        · rw [if_neg h, if_neg h]
theorem lk_del {l : Int} : ∀ {M : Mp} {k : Int}, lk (delM l M) k = if k = l then none else lk M k
  | [], k => by
    show none = _
    split <;> rfl
  | q :: r, k => by
    unfold delM
    rw [List.filter_cons]
    by_cases h : q.1 = l
    · rw [if_neg (by simp [h])]
      show lk (delM l r) k = _
      rw [lk_del, lk_cons]
      by_cases e : k = l
      · rw [if_pos e, if_pos e]
      · rw [if_neg e, if_neg e, if_neg (by omega)]
    · rw [if_pos (by simp [h]), lk_cons]
      show (if q.1 = k then some q.2 else lk (delM l r) k) = _
      rw [lk_del, lk_cons]
      by_cases e : k = l
      · rw [if_pos e, if_pos e, if_neg (by omega)]
      · rw [if_neg e, if_neg e]
theorem keys_ins {l : Int} {w : W3} : ∀ {M : Mp} {k : Int}, k ∈ (insM l w M).map (·.1) → k = l ∨ k ∈ M.map (·.1)
  | [], k, h => by
    have : k = l := by simpa [insM] using h
    exact .inl this
  | q :: r, k, h => by
    unfold insM at h
    by_cases h1 : l < q.1
    · rw [if_pos h1] at h
      simpa using h
    · rw [if_neg h1] at h
      by_cases h2 : l = q.1
      · rw [if_pos h2] at h
        have : k = l ∨ k ∈ r.map (·.1) := by simpa using h
        rcases this with e | e
        · exact .inl e
        · exact .inr (by simp only [List.map_cons]; exact List.mem_cons_of_mem _ e)
      · rw [if_neg h2] at h
        have : k = q.1 ∨ k ∈ (insM l w r).map (·.1) := by simpa using h
        rcases this with e | e
        · exact .inr (by simp only [List.map_cons]; exact e ▸ List.mem_cons_self ..)
        · rcases keys_ins e with e | e
          · exact .inl e
          · exact .inr (by simp only [List.map_cons]; exact List.mem_cons_of_mem _ e)
theorem srt_ins {l : Int} {w : W3} : ∀ {M : Mp}, Srt M → Srt (insM l w M)
  | [], _ => by
    show (([(l, w)] : Mp).map (·.1)).Pairwise (· < ·)
    simp
  | q :: r, h => by
    have h : (q.1 :: r.map (·.1)).Pairwise (· < ·) := h
    obtain ⟨a, b⟩ := List.pairwise_cons.mp h
    unfold insM
    by_cases h1 : l < q.1
    · rw [if_pos h1]
      show (l :: q.1 :: r.map (·.1)).Pairwise (· < ·)
      refine List.pairwise_cons.mpr ⟨fun k hk => ?_, h⟩
      rcases List.mem_cons.mp hk with e | e
      · omega
      · have := a k e; omega
    · rw [if_neg h1]
      by_cases h2 : l = q.1
      · rw [if_pos h2]
        show (l :: r.map (·.1)).Pairwise (· < ·)
        rw [h2]
        exact h
      · rw [if_neg h2]
        show (q.1 :: (insM l w r).map (·.1)).Pairwise (· < ·)
        refine List.pairwise_cons.mpr ⟨fun k hk => ?_, srt_ins b⟩
        rcases keys_ins hk with e | e
        · omega
        · exact a k e
theorem srt_del {l : Int} {M : Mp} (h : Srt M) : Srt (delM l M) := by
  unfold Srt delM at *
  exact h.sublist (List.Sublist.map _ List.filter_sublist)
theorem lk_none {M : Mp} {l : Int} : lk M l = none ↔ ¬ l ∈ M.map (·.1) := by
  induction M with
  | nil => simp [lk]
  | cons q r ih =>
    rw [lk_cons]
    by_cases h : q.1 = l
    · rw [if_pos h]; simp [h]
    · rw [if_neg h, ih]
      have h' : ¬ l = q.1 := fun e => h e.symm
      simp [h']
theorem lk_mem {M : Mp} {l : Int} {w : W3} (h : lk M l = some w) : (l, w) ∈ M := by
  induction M with
  | nil => simp [lk] at h
  | cons q r ih =>
    rw [lk_cons] at h
    by_cases e : q.1 = l
    · rw [if_pos e] at h
      cases h
      rw [← e]
      exact List.mem_cons_self ..
    · rw [if_neg e] at h
      exact List.mem_cons_of_mem _ (ih h)
theorem mem_lk {M : Mp} (hs : Srt M) {l : Int} {w : W3} (h : (l, w) ∈ M) : lk M l = some w := by
  induction M with
  | nil => simp at h
  | cons q r ih =>
    have hs : (q.1 :: r.map (·.1)).Pairwise (· < ·) := hs
    obtain ⟨a, b⟩ := List.pairwise_cons.mp hs
    rw [lk_cons]
    rcases List.mem_cons.mp h with e | e
    · rw [← e, if_pos rfl]
    · have h1 : l ∈ r.map (·.1) := List.mem_map.mpr ⟨_, e, rfl⟩
      have := a l h1
      rw [if_neg (by omega)]
      exact ih b e
/-- two sorted lists with the same members -/
theorem srt_keys : ∀ {xs ys : List Int}, xs.Pairwise (· < ·) → ys.Pairwise (· < ·) → (∀ k, k ∈ xs ↔ k ∈ ys) → xs = ys
  | [], [], _, _, _ => rfl
  | [], y :: s, _, _, h => by have := (h y).mpr (List.mem_cons_self ..); simp at this
  | x :: r, [], _, _, h => by have := (h x).mp (List.mem_cons_self ..); simp at this
  | x :: r, y :: s, hx, hy, h => by
    obtain ⟨a, b⟩ := List.pairwise_cons.mp hx
    obtain ⟨c, d⟩ := List.pairwise_cons.mp hy
    have e : x = y := by
      rcases List.mem_cons.mp ((h x).mp (List.mem_cons_self ..)) with e | e
      · exact e
      · rcases List.mem_cons.mp ((h y).mpr (List.mem_cons_self ..)) with e' | e'
        · exact e'.symm
        · have := c x e; have := a y e'; omega
    subst e
    rw [srt_keys b d fun k => ⟨fun hk => ?_, fun hk => ?_⟩]
    · rcases List.mem_cons.mp ((h k).mp (List.mem_cons_of_mem _ hk)) with e | e
      · have := a k hk; omega
      · exact e
    · rcases List.mem_cons.mp ((h k).mpr (List.mem_cons_of_mem _ hk)) with e | e
      · have := c k hk; omega
      · exact e
theorem lk_ext {M M' : Mp} (h : Srt M) (h' : Srt M') (e : ∀ l, lk M l = lk M' l) : M = M' := by
  have hk : M.map (·.1) = M'.map (·.1) := srt_keys h h' fun k => by
    have := e k
    constructor
    · intro hm
      refine Classical.byContradiction fun hn => ?_
      rw [lk_none.mpr hn] at this
      exact lk_none.mp this hm
    · intro hm
      refine Classical.byContradiction fun hn => ?_
      rw [lk_none.mpr hn] at this
      exact lk_none.mp this.symm hm
  have go : ∀ {M : Mp}, Srt M → M = (M.map (·.1)).filterMap fun l => (lk M l).map fun w => (l, w) := fun {M} hs => by
    have : ∀ (N : Mp), (∀ q ∈ N, q ∈ M) → N = (N.map (·.1)).filterMap fun l => (lk M l).map fun w => (l, w) := by
      intro N
      induction N with
      | nil => intro _; rfl
      | cons q r ih =>
        intro hq
        have h1 := mem_lk hs (hq q (List.mem_cons_self ..))
        rw [List.map_cons, List.filterMap_cons, h1]
        exact congrArg _ (ih fun q' hq' => hq q' (List.mem_cons_of_mem _ hq'))
    exact this M fun _ h => h
  rw [go h, go h', hk]
  congr 1
  funext l
  rw [e]
theorem ins_len {l : Int} {w : W3} : ∀ {M : Mp}, (insM l w M).length ≤ M.length + 1
  | [] => Nat.le_refl _
  | q :: r => by
    unfold insM
    split
    · exact Nat.le_refl _
    · split
      · simp
      · have := ins_len (l := l) (w := w) (M := r)
        simp only [List.length_cons]
        omega
theorem ins_len_old {l : Int} {w : W3} : ∀ {M : Mp}, Srt M → l ∈ M.map (·.1) → (insM l w M).length = M.length
  | [], _, h => by simp at h
  | q :: r, hs, h => by
    have hs : (q.1 :: r.map (·.1)).Pairwise (· < ·) := hs
    obtain ⟨a, b⟩ := List.pairwise_cons.mp hs
    have h : l = q.1 ∨ l ∈ r.map (·.1) := by simpa using h
    unfold insM
    rcases h with h | h
    · rw [if_neg (by omega), if_pos h]
      rfl
    · have := a l h
      rw [if_neg (by omega), if_neg (by omega), List.length_cons, ins_len_old b h, List.length_cons]
theorem del_len {l : Int} {M : Mp} : (delM l M).length ≤ M.length := List.length_filter_le _ _
theorem mem_ins {l : Int} {w : W3} {M : Mp} (hs : Srt M) {q : Int × W3} (h : q ∈ insM l w M) : q = (l, w) ∨ (q.1 ≠ l ∧ q ∈ M) := by
  have h1 := mem_lk (srt_ins (l := l) (w := w) hs) (l := q.1) (w := q.2) h
  rw [lk_ins] at h1
  by_cases e : q.1 = l
  · rw [if_pos e] at h1
    cases h1
    exact .inl (by rw [← e])
  · rw [if_neg e] at h1
    exact .inr ⟨e, lk_mem h1⟩
theorem ins_mem {l : Int} {w : W3} {M : Mp} : (l, w) ∈ insM l w M := lk_mem (by rw [lk_ins, if_pos rfl])
theorem ins_keep {l : Int} {w : W3} {M : Mp} (hs : Srt M) {q : Int × W3} (h : q ∈ M) (hn : q.1 ≠ l) : q ∈ insM l w M := lk_mem (l := q.1) (by rw [lk_ins, if_neg hn]; exact mem_lk hs h)
/-- laid and lifted; lifted and laid; turned and turned back -/
theorem del_ins {l : Int} {w : W3} {M : Mp} (hs : Srt M) (h : lk M l = none) : delM l (insM l w M) = M :=
  lk_ext (srt_del (srt_ins hs)) hs fun k => by
    rw [lk_del, lk_ins]
    by_cases e : k = l
    · rw [if_pos e, e, h]
    · rw [if_neg e, if_neg e]
theorem ins_del {l : Int} {w : W3} {M : Mp} (hs : Srt M) (h : lk M l = some w) : insM l w (delM l M) = M :=
  lk_ext (srt_ins (srt_del hs)) hs fun k => by
    rw [lk_ins, lk_del]
    by_cases e : k = l
    · rw [if_pos e, e, h]
    · rw [if_neg e, if_neg e]
theorem ins_ins {l : Int} {w w' : W3} {M : Mp} (hs : Srt M) (h : lk M l = some w) : insM l w (insM l w' M) = M :=
  lk_ext (srt_ins (srt_ins hs)) hs fun k => by
    rw [lk_ins, lk_ins]
    by_cases e : k = l
    · rw [if_pos e, e, h]
    · rw [if_neg e, if_neg e]
abbrev wsM (M : Mp) : List W3 := M.map (·.2)
theorem cov_ins {l : Int} {w : W3} {M : Mp} (hs : Srt M) (h : lk M l = none) : Cov (wsM M) (wsM (insM l w M)) := fun v hv => by
  obtain ⟨q, hq, rfl⟩ := List.mem_map.mp hv
  refine ⟨q.2, List.mem_map.mpr ⟨q, ins_keep hs hq fun e => ?_, rfl⟩, rfl, rfl, Int.le_refl _⟩
  exact lk_none.mp h (e ▸ List.mem_map.mpr ⟨q, hq, rfl⟩)
theorem cov_del {l : Int} {M : Mp} : Cov (wsM (delM l M)) (wsM M) := fun v hv => by
  obtain ⟨q, hq, rfl⟩ := List.mem_map.mp hv
  exact ⟨q.2, List.mem_map.mpr ⟨q, (List.mem_filter.mp hq).1, rfl⟩, rfl, rfl, Int.le_refl _⟩
theorem cov_turn {l : Int} {s e : Nat} {c c' : Int} {M : Mp} (hs : Srt M) (h : lk M l = some (s, e, c)) (hc : c ≤ c') : Cov (wsM M) (wsM (insM l (s, e, c') M)) := fun v hv => by
  obtain ⟨q, hq, rfl⟩ := List.mem_map.mp hv
  by_cases el : q.1 = l
  · have h1 := mem_lk hs (l := q.1) (w := q.2) hq
    rw [el, h] at h1
    have h2 := Option.some.inj h1
    exact ⟨(s, e, c'), List.mem_map.mpr ⟨_, ins_mem, rfl⟩, by rw [← h2], by rw [← h2], by rw [← h2]; exact hc⟩
  · exact ⟨q.2, List.mem_map.mpr ⟨q, ins_keep hs hq el, rfl⟩, rfl, rfl, Int.le_refl _⟩
theorem cov_turn' {l : Int} {s e : Nat} {c c' : Int} {M : Mp} (hs : Srt M) (h : lk M l = some (s, e, c)) (hc : c' ≤ c) : Cov (wsM (insM l (s, e, c') M)) (wsM M) := fun v hv => by
  obtain ⟨q, hq, rfl⟩ := List.mem_map.mp hv
  rcases mem_ins hs hq with e1 | ⟨e1, e2⟩
  · subst e1
    exact ⟨(s, e, c), List.mem_map.mpr ⟨_, lk_mem h, rfl⟩, rfl, rfl, hc⟩
  · exact ⟨q.2, List.mem_map.mpr ⟨q, e2, rfl⟩, rfl, rfl, Int.le_refl _⟩
end Tr


set_option Elab.async false
set_option linter.all false
set_option maxRecDepth 100000
set_option maxHeartbeats 4000000
/-! The walk's base: the text by places, values, frames, calls in short, rules of our own. -/
namespace Tr
open PySem PySem.Spec PyProof.Rows L2

def top (i : Nat) : Stmt := PySem.Challenge.pw_trudge_k93_whole_none_rises_none_falls.main.body.getD i (.Pass ⟨0, 0, 0, 0⟩)

/-! ### values -/
def ov : Option Int → V
  | none => .non
  | some x => .int x
def on : Option Nat → V
  | none => .non
  | some x => .int (x : Int)
def tv (t : Tb) : List V := t.map ov
def wv (w : W3) : List V := [.int (w.1 : Int), .int (w.2.1 : Int), .int w.2.2]

/-! ### frames: all stands but what is at the addresses ds; tuples stand always -/
def Keep (ds : List Addr) (H H' : Hp) : Prop := (∀ b o, H b = some o → ¬ b ∈ ds → H' b = some o) ∧ ∀ b xs, H b = some (.tup xs) → H' b = some (.tup xs)
theorem Keep.refl {ds : List Addr} {H : Hp} : Keep ds H H := ⟨fun _ _ h _ => h, fun _ _ h => h⟩
theorem Keep.trans {ds : List Addr} {H H1 H2 : Hp} (a : Keep ds H H1) (b : Keep ds H1 H2) : Keep ds H H2 := ⟨fun c o h n => b.1 c o (a.1 c o h n) n, fun c xs h => b.2 c xs (a.2 c xs h)⟩
theorem Keep.mono {ds es : List Addr} {H H' : Hp} (a : Keep ds H H') (h : ∀ x ∈ ds, x ∈ es) : Keep es H H' := ⟨fun c o e n => a.1 c o e fun m => n (h c m), a.2⟩
theorem Keep.new {ds : List Addr} {H : Hp} {p : Addr} {o : HO} (h : H p = none) : Keep ds H (upd H p o) :=
  ⟨fun b u e _ => by rw [upd_ne (ne_of_none e h)]; exact e, fun b xs e => by rw [upd_ne (ne_of_none e h)]; exact e⟩
/-- an object at one of the places (no tuple) is written -/
theorem Keep.put {ds : List Addr} {H : Hp} {p : Addr} {o u : HO} (hp : p ∈ ds) (h : H p = some u) (hu : ∀ xs, u ≠ .tup xs) : Keep ds H (upd H p o) :=
  ⟨fun b v e n => by rw [upd_ne (fun q => n (by rw [q]; exact hp) : b ≠ p)]; exact e, fun b xs e => by rw [upd_ne (ne_of e h (fun q => hu xs q.symm) : b ≠ p)]; exact e⟩
/-- what was new, may be written -/
theorem Keep.mut {ds : List Addr} {H H' : Hp} {p : Addr} {o : HO} (a : Keep ds H H') (h : H p = none) : Keep ds H (upd H' p o) :=
  ⟨fun b u e n => by rw [upd_ne (ne_of_none e h)]; exact a.1 b u e n, fun b xs e => by rw [upd_ne (ne_of_none e h)]; exact a.2 b xs e⟩
theorem Keep.free {H H' : Hp} (a : Keep [] H H') {l : Addr} (h : H' l = none) : H l = none := by
  cases q : H l with
  | none => rfl
  | some o =>
    rw [a.1 l o q (by simp)] at h
    cases h
theorem Keep.freeD {ds : List Addr} {H H' : Hp} (a : Keep ds H H') {l : Addr} (h : H' l = none) (n : ¬ l ∈ ds) : H l = none := by
  cases q : H l with
  | none => rfl
  | some o =>
    rw [a.1 l o q n] at h
    cases h
theorem Keep.same {H H' : Hp} (a : Keep [] H H') : Same H H' := fun b o e => a.1 b o e (by simp)
theorem _root_.L2.Same.keep {H H' : Hp} (a : Same H H') : Keep [] H H' := ⟨fun b o e _ => a b o e, fun b xs e => a b _ e⟩
theorem _root_.L2.Same.new {H : Hp} {p : Addr} {o : HO} (h : H p = none) : Same H (upd H p o) := fun b u e => by rw [upd_ne (ne_of_none e h)]; exact e
theorem _root_.L2.Same.mut {H H' : Hp} {p : Addr} {o : HO} (a : Same H H') (h : H p = none) : Same H (upd H' p o) := fun b u e => by rw [upd_ne (ne_of_none e h)]; exact a b u e
theorem Keep.of {ds : List Addr} {H H' : Hp} (a : Keep [] H H') : Keep ds H H' := a.mono fun _ h => by simp at h

/-! ### a def of the module, a method, a class, as they are called -/
def Cal (P : Program) (w : World) (K : PySem.W.Frag) (mg : Str → Option Value) (base : Heap) (x : Str) (k : Nat) (ps : List Str) (sp : Sp) : Prop :=
  ∃ (f : Addr) (fd : FuncData), FnOk P w K mg base CX0 k f fd ps sp ∧ mg x = some (.ref f) ∧ PySem.W.keepIn K (.ref f) = true ∧ Binds K fd ps []
def MCal (P : Program) (w : World) (K : PySem.W.Frag) (mg : Str → Option Value) (base : Heap) (C : Addr) (x : Str) (k : Nat) (ps : List Str) (sp : Sp) : Prop :=
  ∃ (f : Addr) (fd : FuncData), FnOk P w K mg base CX0 k f fd ps sp ∧ Meth K C x f ∧ Binds K fd ps []
def ICal (P : Program) (w : World) (K : PySem.W.Frag) (mg : Str → Option Value) (base : Heap) (C : Addr) (x : Str) (k : Nat) (ps : List Str) (sp : Sp) : Prop :=
  ∃ (f : Addr) (fd : FuncData), FnOk P w K mg base CX0 k f fd ps sp ∧ Mk K C f ∧ mg x = some (.ref C) ∧ Binds K fd ps []
/-- a def of the text, as the top has left it -/
def Dfn (K : PySem.W.Frag) (mg : Str → Option Value) (x : Str) (st : Stmt) : Prop := ∃ (f : Addr) (fd : FuncData), Fun K x x st f fd ∧ mg x = some (.ref f)
def DfnM (K : PySem.W.Frag) (C : Addr) (x q : Str) (st : Stmt) : Prop := ∃ (f : Addr) (fd : FuncData), Fun K x q st f fd ∧ Meth K C x f
def DfnI (K : PySem.W.Frag) (mg : Str → Option Value) (C : Addr) (c q : Str) (st : Stmt) : Prop := ∃ (f : Addr) (fd : FuncData), Fun K "__init__" q st f fd ∧ Mk K C f ∧ mg c = some (.ref C)
/-- the built-ins that are still themselves -/
structure Blt (mg : Str → Option Value) : Prop where
  min : mg "min" = none
  max : mg "max" = none
  len : mg "len" = none
  list : mg "list" = none
  range : mg "range" = none
  enumerate : mg "enumerate" = none
  isinstance : mg "isinstance" = none
  abs : mg "abs" = none
  sorted : mg "sorted" = none
  dict : mg "dict" = none
  int : mg "int" = none
  bool : mg "bool" = none
  any : mg "any" = none
  all : mg "all" = none

/-! ### tests by propositions -/
theorem iteY {c A B : Prop} [Decidable c] (h : c) (a : A) : if decide c = true then A else B := by
  rw [decide_eq_true h]
  exact iteT a
theorem iteN {c A B : Prop} [Decidable c] (h : ¬ c) (b : B) : if decide c = true then A else B := by
  rw [decide_eq_false h]
  exact iteF b
theorem iteYn {c A B : Prop} [Decidable c] (h : ¬ c) (a : A) : if (!decide c) = true then A else B := by
  rw [decide_eq_false h]
  exact iteT a
theorem iteNn {c A B : Prop} [Decidable c] (h : c) (b : B) : if (!decide c) = true then A else B := by
  rw [decide_eq_true h]
  exact iteF b

/-! ### rules of our own -/
section
variable {X : Cx}
/-- xs[i] as the place of an op= -/
theorem get_list : PGet X (rIxL X.K) := by
  intro pins s σ H o i ov iv Q I ro ri h
  obtain ⟨p, xs, k, z, rfl, rfl, hq, he, q⟩ := h
  cases ro
  obtain ⟨t, rfl⟩ := ri
  obtain ⟨its, r, pl, hz⟩ := I.list hq
  obtain ⟨j, h1, h2, h3, h4, h5⟩ := atI_get he
  obtain ⟨w, ew, rw'⟩ := r.get h2
  have hl := r.length
  have hn := line63
  have fin : EP X pins σ Q w s := ⟨z, H, I, rw', q⟩
  by_cases h0 : 0 ≤ k
  · have hj : k.toNat = j := by
      rw [seqIndex_of h0 h5] at h1
      exact Option.some.inj h1
    exact wpAny_mono (wpAny_getItem_list (Q := fun r s' => r = w ∧ s' = s) pl.isList h0 (by omega) (by rw [hj]; simpa using ew) ⟨rfl, rfl⟩) (fun r s' e => by rw [e.1, e.2]; exact fin) fun _ _ z => z
  · have hj : (k + (its.toArray.size : Int)).toNat = j := by
      rw [seqIndex_neg (by omega) h4] at h1
      rw [List.size_toArray, ← hl]
      exact Option.some.inj h1
    exact wpAny_mono (wpAny_getItem_list_neg (Q := fun r s' => r = w ∧ s' = s) pl.isList (by omega) (by rw [List.size_toArray] <;> omega) (by omega) (by rw [hj]; simpa using ew) ⟨rfl, rfl⟩) (fun r s' e => by rw [e.1, e.2]; exact fin) fun _ _ z => z
/-- dict(d): a new dict with the same pairs -/
theorem call_dictD : CallR X (.type "dict") (fun xs H Q => ∃ (a : Addr) (kvs : List (Key × V)), xs = [.ref a] ∧ Rd H a (.dK kvs) ∧ ∀ p, H p = none → Q (.ref p) (upd H p (.dK kvs))) := by
  intro pins s σ H xs us Q I r h
  obtain ⟨a, kvs, rfl, e, q⟩ := h
  obtain ⟨u, rfl, ru⟩ := vals1 r
  cases ru
  exact d_copyOf I e fun p s' hp I' => ⟨.ref p, _, I', rfl, q p hp⟩
/-- for i, x in enumerate(xs), the list left as it is -/
theorem for_enum {K : PySem.W.Frag} {a : Addr} {xs : List V} {g : TG} {tb : TS} {D : Ends} {σ : L2.St} {H : Hp} (Pv : Nat → L2.St → Hp → Prop) (h0 : Pv 0 σ H) (hl : ∀ i σ H, i ≤ xs.length → Pv i σ H → SqL K H a xs)
    (hs : ∀ i x σ H T, xs[i]? = some x → Pv i σ H → H T = none → g (.ref T) σ (upd H T (.tup [.int (i : Nat), x])) fun σ2 H2 => tb { D with nx := Pv (i + 1), ct := Pv (i + 1), bk := D.nx } σ2 H2) (hd : ∀ σ H, Pv xs.length σ H → D.nx σ H) :
    ∃ W : Nat → Nat → L2.St → Hp → Prop, (∃ m, W 0 m σ H) ∧ ∀ i m σ H, W i m σ H →
      ((Ite K a).stop i H ∧ D.nx σ H) ∨ ((Ite K a).go i H ∧ ∃ N : L2.St → Hp → Prop, (∀ σ' H', N σ' H' → ∃ m', m' < m ∧ W (i + 1) m' σ' H') ∧ ∀ x H', (Ite K a).yld i H x H' → g x σ H' fun σ2 H2 => tb { D with nx := N, ct := N, bk := D.nx } σ2 H2) := by
  refine ⟨fun i m σ H => m = xs.length - i ∧ i ≤ xs.length ∧ Pv i σ H, ⟨xs.length, by simp, Nat.zero_le _, h0⟩, ?_⟩
  rintro i m σ H ⟨rfl, hi, p⟩
  have q := hl i σ H hi p
  by_cases hlt : i < xs.length
  · refine .inr ⟨⟨xs, xs[i], q, by simp [hlt]⟩, Pv (i + 1), fun σ' H' p' => ⟨xs.length - (i + 1), by omega, rfl, hlt, p'⟩, fun x H' y => ?_⟩
    obtain ⟨T, z, rfl, hT, rfl, hz⟩ := y
    exact hs i z σ H T (hz xs q) p hT
  · have e : i = xs.length := by omega
    subst e
    exact .inl ⟨⟨xs, q, Nat.le_refl _⟩, hd σ H p⟩
end

/-! ### rows of lists -/
def RowsAt (H : Hp) (as : List Addr) (vss : List (List V)) : Prop := as.length = vss.length ∧ ∀ (i : Nat) b vs, as[i]? = some b → vss[i]? = some vs → H b = some (.lst vs)
theorem RowsAt.mono {H H' : Hp} {as : List Addr} {vss : List (List V)} (h : RowsAt H as vss) (k : ∀ b ∈ as, ∀ o, H b = some o → H' b = some o) : RowsAt H' as vss :=
  ⟨h.1, fun i b vs e1 e2 => k b (List.mem_of_getElem? e1) _ (h.2 i b vs e1 e2)⟩
theorem RowsAt.same {H H' : Hp} {as : List Addr} {vss : List (List V)} (h : RowsAt H as vss) (k : Same H H') : RowsAt H' as vss := h.mono fun b _ o e => k b o e
theorem RowsAt.snoc {H : Hp} {as : List Addr} {vss : List (List V)} (h : RowsAt H as vss) {a : Addr} {vs : List V} (e : H a = some (.lst vs)) : RowsAt H (as ++ [a]) (vss ++ [vs]) := by
  refine ⟨by simp [h.1], fun i b us e1 e2 => ?_⟩
  by_cases q : i < as.length
  · rw [List.getElem?_append_left q] at e1
    rw [List.getElem?_append_left (h.1 ▸ q)] at e2
    exact h.2 i b us e1 e2
  · have hi : i < (as ++ [a]).length := (List.getElem?_eq_some_iff.mp e1).1
    have q' : i = as.length := by simp at hi; omega
    subst q'
    rw [List.getElem?_append_right (Nat.le_refl _)] at e1
    rw [List.getElem?_append_right (by rw [h.1]; exact Nat.le_refl _)] at e2
    have e1 : a = b := by simpa using e1
    have e2 : vs = us := by simpa [h.1] using e2
    rw [← e1, ← e2]
    exact e
theorem RowsAt.get {H : Hp} {as : List Addr} {vss : List (List V)} (h : RowsAt H as vss) {i : Nat} {vs : List V} (e : vss[i]? = some vs) : ∃ b, as[i]? = some b ∧ H b = some (.lst vs) := by
  have hi : i < as.length := by rw [h.1]; exact (List.getElem?_eq_some_iff.mp e).1
  exact ⟨as[i], List.getElem?_eq_getElem hi, h.2 i _ _ (List.getElem?_eq_getElem hi) e⟩

/-! ### data compared -/
def od : Option Int → PyData
  | none => .none
  | some x => .int x
def td (t : Tb) : PyData := .list (t.map od)
theorem eqv_od (a b : Option Int) : PyData.eqv (od a) (od b) = decide (a = b) := by
  cases a <;> cases b <;> simp [od, PyData.eqv]
  rw [Bool.eq_iff_iff]
  simp
theorem eqv_all : ∀ (t u : Tb), PyData.eqvAll (t.map od) (u.map od) = decide (t = u)
  | [], [] => by simp [PyData.eqvAll]
  | [], b :: r => by simp [PyData.eqvAll]
  | a :: r, [] => by simp [PyData.eqvAll]
  | a :: r, b :: r' => by
    simp only [List.map_cons, PyData.eqvAll]
    rw [eqv_od, eqv_all r r', Bool.eq_iff_iff]
    simp
theorem eqv_td (t u : Tb) : PyData.eqv (td t) (td u) = decide (t = u) := by
  unfold td
  rw [PyData.eqv, eqv_all]
theorem lay_od (a : Option Int) : PyData.canLay0 (od a) = true ∧ PyData.depth (od a) = 0 := by cases a <;> simp [od, PyData.canLay0, PyData.depth]
theorem lay_all : ∀ t : Tb, PyData.canLayAll0 (t.map od) = true ∧ PyData.depthAll (t.map od) = 0
  | [] => by simp [PyData.canLayAll0, PyData.depthAll]
  | a :: r => by
    have h1 := lay_od a
    have h2 := lay_all r
    simp [PyData.canLayAll0, PyData.depthAll, h1.1, h1.2, h2.1, h2.2]
theorem depth_td (t : Tb) : PyData.depth (td t) = 1 := by
  unfold td
  rw [PyData.depth, (lay_all t).2]
theorem lay_td (t : Tb) : PyData.canLay0 (td t) = true := by
  unfold td
  rw [PyData.canLay0, (lay_all t).1]
theorem shaped_td (t : Tb) : SeqAt.shaped (td t) = true := by
  unfold SeqAt.shaped
  rw [lay_td, depth_td]
  rfl
theorem dp_all {K : PySem.W.Frag} {H : Hp} : ∀ t : Tb, DpAll K H (tv t) (t.map od)
  | [] => .nil
  | none :: r => .cons .non (dp_all r)
  | some x :: r => .cons (.int x) (dp_all r)
theorem dp_td {K : PySem.W.Frag} {H : Hp} {a : Addr} {t : Tb} (h : SqL K H a (tv t)) : Dp K H (.ref a) (td t) := .lst h (dp_all t)

/-! ### tables by places -/
theorem tv_len (t : Tb) : (tv t).length = t.length := by simp [tv]
theorem tv_at {t : Tb} {p : Nat} (h : p < t.length) : (tv t)[p]? = some (ov (g t p)) := by
  unfold tv
  rw [List.getElem?_map, g_lt h]
  rfl
theorem tv_set {t : Tb} {p : Nat} {o : Option Int} : (tv t).set p (ov o) = tv (t.set p o) := by
  unfold tv
  rw [List.map_set]
def mv (m : List (Option Nat)) : List V := m.map Tr.on
theorem mv_len (t : List (Option Nat)) : (mv t).length = t.length := by simp [mv]
theorem mv_set {t : List (Option Nat)} {p : Nat} {o : Option Nat} : (mv t).set p (Tr.on o) = mv (t.set p o) := by
  unfold mv
  rw [List.map_set]
theorem ixN_nat {n j : Nat} (h : j < n) : ixN n (j : Int) = some j := by
  unfold ixN
  rw [if_pos (by omega), if_pos (by omega)]
  simp
theorem atI_end {xs : List V} {v : V} (h : xs[xs.length - 1]? = some v) : atI xs (-1) = some v := by
  have hl : xs.length - 1 < xs.length := (List.getElem?_eq_some_iff.mp h).1
  unfold atI ixN
  rw [if_neg (by decide), if_pos (by omega)]
  have e : (-1 + (xs.length : Int)).toNat = xs.length - 1 := by omega
  rw [e]
  exact h
theorem atI_end2 {xs : List V} {v : V} (h : xs[xs.length - 2]? = some v) (h2 : 2 ≤ xs.length) : atI xs (-2) = some v := by
  unfold atI ixN
  rw [if_neg (by decide), if_pos (by omega)]
  have e : (-2 + (xs.length : Int)).toNat = xs.length - 2 := by omega
  rw [e]
  exact h

/-! ### a land -/
structure LandAt (H : Hp) (l : Addr) (n : Nat) (ways : List W3) (wl : Addr) (as : List Addr) : Prop where
  tu : H l = some (.tup [.int (n : Int), .ref wl])
  li : H wl = some (.lst (as.map V.ref))
  len : as.length = ways.length
  at_ : ∀ (i : Nat) a w, as[i]? = some a → ways[i]? = some w → H a = some (.tup (wv w))
theorem LandAt.same {H H' : Hp} {l : Addr} {n : Nat} {ways : List W3} {wl : Addr} {as : List Addr} (h : LandAt H l n ways wl as) (k : Same H H') : LandAt H' l n ways wl as :=
  ⟨k _ _ h.tu, k _ _ h.li, h.len, fun i a w e1 e2 => k _ _ (h.at_ i a w e1 e2)⟩
theorem LandAt.get {H : Hp} {l : Addr} {n : Nat} {ways : List W3} {wl : Addr} {as : List Addr} (h : LandAt H l n ways wl as) {i : Nat} {w : W3} (e : ways[i]? = some w) : ∃ a, as[i]? = some a ∧ (as.map V.ref)[i]? = some (V.ref a) ∧ H a = some (.tup (wv w)) := by
  have hi : i < as.length := by rw [h.len]; exact (List.getElem?_eq_some_iff.mp e).1
  refine ⟨as[i], List.getElem?_eq_getElem hi, by rw [List.getElem?_map, List.getElem?_eq_getElem hi]; rfl, h.at_ i _ _ (List.getElem?_eq_getElem hi) e⟩

end Tr


set_option Elab.async false
set_option linter.all false
set_option maxRecDepth 100000
set_option maxHeartbeats 4000000
/-! the attributes of the three classes (printed by genflds.py) -/
namespace Tr
open PySem PySem.Spec PyProof.Rows L2
theorem neP_country_bound : ¬ (("country" : Str) = "bound") := by decide +kernel
theorem neP_country_tables : ¬ (("country" : Str) = "tables") := by decide +kernel
theorem neP_country_made : ¬ (("country" : Str) = "made") := by decide +kernel
theorem neP_bound_country : ¬ (("bound" : Str) = "country") := by decide +kernel
theorem neP_bound_tables : ¬ (("bound" : Str) = "tables") := by decide +kernel
theorem neP_bound_made : ¬ (("bound" : Str) = "made") := by decide +kernel
theorem neP_tables_country : ¬ (("tables" : Str) = "country") := by decide +kernel
theorem neP_tables_bound : ¬ (("tables" : Str) = "bound") := by decide +kernel
theorem neP_tables_made : ¬ (("tables" : Str) = "made") := by decide +kernel
theorem neP_made_country : ¬ (("made" : Str) = "country") := by decide +kernel
theorem neP_made_bound : ¬ (("made" : Str) = "bound") := by decide +kernel
theorem neP_made_tables : ¬ (("made" : Str) = "tables") := by decide +kernel
def fP (a b c d : V) : List (Str × V) := putF "made" d (putF "tables" c (putF "bound" b (putF "country" a [])))
theorem fP_eq (a b c d : V) : fP a b c d = ([("country", a), ("bound", b), ("tables", c), ("made", d)] : List (Str × V)) := by
  unfold fP
  have e0 : putF "country" a ([] : List (Str × V)) = ([(("country" : Str), a)] : List (Str × V)) := by
    rfl
  have e1 : putF "bound" b ([(("country" : Str), a)] : List (Str × V)) = ([(("country" : Str), a), (("bound" : Str), b)] : List (Str × V)) := by
    show (if ("country" : Str) = "bound" then (("country" : Str), b) :: ([] : List (Str × V)) else (("country" : Str), a) :: ([("bound", b)] : List (Str × V))) = _
    rw [if_neg neP_country_bound]
  have e2 : putF "tables" c ([(("country" : Str), a), (("bound" : Str), b)] : List (Str × V)) = ([(("country" : Str), a), (("bound" : Str), b), (("tables" : Str), c)] : List (Str × V)) := by
    show (if ("country" : Str) = "tables" then (("country" : Str), c) :: ([(("bound" : Str), b)] : List (Str × V)) else (("country" : Str), a) :: (if ("bound" : Str) = "tables" then (("bound" : Str), c) :: ([] : List (Str × V)) else (("bound" : Str), b) :: ([("tables", c)] : List (Str × V)))) = _
    rw [if_neg neP_country_tables, if_neg neP_bound_tables]
  have e3 : putF "made" d ([(("country" : Str), a), (("bound" : Str), b), (("tables" : Str), c)] : List (Str × V)) = ([(("country" : Str), a), (("bound" : Str), b), (("tables" : Str), c), (("made" : Str), d)] : List (Str × V)) := by
    show (if ("country" : Str) = "made" then (("country" : Str), d) :: ([(("bound" : Str), b), (("tables" : Str), c)] : List (Str × V)) else (("country" : Str), a) :: (if ("bound" : Str) = "made" then (("bound" : Str), d) :: ([(("tables" : Str), c)] : List (Str × V)) else (("bound" : Str), b) :: (if ("tables" : Str) = "made" then (("tables" : Str), d) :: ([] : List (Str × V)) else (("tables" : Str), c) :: ([("made", d)] : List (Str × V))))) = _
    rw [if_neg neP_country_made, if_neg neP_bound_made, if_neg neP_tables_made]
  rw [e0, e1, e2, e3]
theorem fP_country (a b c d : V) : (fP a b c d).lookup ("country" : Str) = some a := by
  unfold fP
  rw [lookup_putF, if_neg neP_country_made, lookup_putF, if_neg neP_country_tables, lookup_putF, if_neg neP_country_bound, lookup_putF, if_pos rfl]
theorem fP_bound (a b c d : V) : (fP a b c d).lookup ("bound" : Str) = some b := by
  unfold fP
  rw [lookup_putF, if_neg neP_bound_made, lookup_putF, if_neg neP_bound_tables, lookup_putF, if_pos rfl]
theorem fP_tables (a b c d : V) : (fP a b c d).lookup ("tables" : Str) = some c := by
  unfold fP
  rw [lookup_putF, if_neg neP_tables_made, lookup_putF, if_pos rfl]
theorem fP_made (a b c d : V) : (fP a b c d).lookup ("made" : Str) = some d := by
  unfold fP
  rw [lookup_putF, if_pos rfl]
theorem fP_no (a b c d : V) (m : Str) (h0 : ¬ m = "country" := by decide +kernel) (h1 : ¬ m = "bound" := by decide +kernel) (h2 : ¬ m = "tables" := by decide +kernel) (h3 : ¬ m = "made" := by decide +kernel) : (fP a b c d).lookup m = none := by
  unfold fP
  rw [lookup_putF, if_neg h3, lookup_putF, if_neg h2, lookup_putF, if_neg h1, lookup_putF, if_neg h0]
  rfl
theorem fP_set_country (a b c d z : V) : putF "country" z (fP a b c d) = fP z b c d := by
  rw [fP_eq, fP_eq]
  show (if ("country" : Str) = "country" then (("country" : Str), z) :: ([(("bound" : Str), b), (("tables" : Str), c), (("made" : Str), d)] : List (Str × V)) else (("country" : Str), a) :: putF "country" z ([(("bound" : Str), b), (("tables" : Str), c), (("made" : Str), d)] : List (Str × V))) = _
  rw [if_pos rfl]
theorem fP_set_bound (a b c d z : V) : putF "bound" z (fP a b c d) = fP a z c d := by
  rw [fP_eq, fP_eq]
  show (if ("country" : Str) = "bound" then (("country" : Str), z) :: ([(("bound" : Str), b), (("tables" : Str), c), (("made" : Str), d)] : List (Str × V)) else (("country" : Str), a) :: (if ("bound" : Str) = "bound" then (("bound" : Str), z) :: ([(("tables" : Str), c), (("made" : Str), d)] : List (Str × V)) else (("bound" : Str), b) :: putF "bound" z ([(("tables" : Str), c), (("made" : Str), d)] : List (Str × V)))) = _
  rw [if_neg neP_country_bound, if_pos rfl]
theorem fP_set_tables (a b c d z : V) : putF "tables" z (fP a b c d) = fP a b z d := by
  rw [fP_eq, fP_eq]
  show (if ("country" : Str) = "tables" then (("country" : Str), z) :: ([(("bound" : Str), b), (("tables" : Str), c), (("made" : Str), d)] : List (Str × V)) else (("country" : Str), a) :: (if ("bound" : Str) = "tables" then (("bound" : Str), z) :: ([(("tables" : Str), c), (("made" : Str), d)] : List (Str × V)) else (("bound" : Str), b) :: (if ("tables" : Str) = "tables" then (("tables" : Str), z) :: ([(("made" : Str), d)] : List (Str × V)) else (("tables" : Str), c) :: putF "tables" z ([(("made" : Str), d)] : List (Str × V))))) = _
  rw [if_neg neP_country_tables, if_neg neP_bound_tables, if_pos rfl]
theorem fP_set_made (a b c d z : V) : putF "made" z (fP a b c d) = fP a b c z := by
  rw [fP_eq, fP_eq]
  show (if ("country" : Str) = "made" then (("country" : Str), z) :: ([(("bound" : Str), b), (("tables" : Str), c), (("made" : Str), d)] : List (Str × V)) else (("country" : Str), a) :: (if ("bound" : Str) = "made" then (("bound" : Str), z) :: ([(("tables" : Str), c), (("made" : Str), d)] : List (Str × V)) else (("bound" : Str), b) :: (if ("tables" : Str) = "made" then (("tables" : Str), z) :: ([(("made" : Str), d)] : List (Str × V)) else (("tables" : Str), c) :: (if ("made" : Str) = "made" then (("made" : Str), z) :: ([] : List (Str × V)) else (("made" : Str), d) :: putF "made" z ([] : List (Str × V)))))) = _
  rw [if_neg neP_country_made, if_neg neP_bound_made, if_neg neP_tables_made, if_pos rfl]
theorem fP_len (a b c d : V) : (fP a b c d).length < 1000 := by
  rw [fP_eq]
  show 4 < 1000
  decide
theorem neH_country_starts : ¬ (("country" : Str) = "starts") := by decide +kernel
theorem neH_country_origins : ¬ (("country" : Str) = "origins") := by decide +kernel
theorem neH_country_passes : ¬ (("country" : Str) = "passes") := by decide +kernel
theorem neH_starts_country : ¬ (("starts" : Str) = "country") := by decide +kernel
theorem neH_starts_origins : ¬ (("starts" : Str) = "origins") := by decide +kernel
theorem neH_starts_passes : ¬ (("starts" : Str) = "passes") := by decide +kernel
theorem neH_origins_country : ¬ (("origins" : Str) = "country") := by decide +kernel
theorem neH_origins_starts : ¬ (("origins" : Str) = "starts") := by decide +kernel
theorem neH_origins_passes : ¬ (("origins" : Str) = "passes") := by decide +kernel
theorem neH_passes_country : ¬ (("passes" : Str) = "country") := by decide +kernel
theorem neH_passes_starts : ¬ (("passes" : Str) = "starts") := by decide +kernel
theorem neH_passes_origins : ¬ (("passes" : Str) = "origins") := by decide +kernel
def fH (a b c d : V) : List (Str × V) := putF "passes" d (putF "origins" c (putF "starts" b (putF "country" a [])))
theorem fH_eq (a b c d : V) : fH a b c d = ([("country", a), ("starts", b), ("origins", c), ("passes", d)] : List (Str × V)) := by
  unfold fH
  have e0 : putF "country" a ([] : List (Str × V)) = ([(("country" : Str), a)] : List (Str × V)) := by
    rfl
  have e1 : putF "starts" b ([(("country" : Str), a)] : List (Str × V)) = ([(("country" : Str), a), (("starts" : Str), b)] : List (Str × V)) := by
    show (if ("country" : Str) = "starts" then (("country" : Str), b) :: ([] : List (Str × V)) else (("country" : Str), a) :: ([("starts", b)] : List (Str × V))) = _
    rw [if_neg neH_country_starts]
  have e2 : putF "origins" c ([(("country" : Str), a), (("starts" : Str), b)] : List (Str × V)) = ([(("country" : Str), a), (("starts" : Str), b), (("origins" : Str), c)] : List (Str × V)) := by
    show (if ("country" : Str) = "origins" then (("country" : Str), c) :: ([(("starts" : Str), b)] : List (Str × V)) else (("country" : Str), a) :: (if ("starts" : Str) = "origins" then (("starts" : Str), c) :: ([] : List (Str × V)) else (("starts" : Str), b) :: ([("origins", c)] : List (Str × V)))) = _
    rw [if_neg neH_country_origins, if_neg neH_starts_origins]
  have e3 : putF "passes" d ([(("country" : Str), a), (("starts" : Str), b), (("origins" : Str), c)] : List (Str × V)) = ([(("country" : Str), a), (("starts" : Str), b), (("origins" : Str), c), (("passes" : Str), d)] : List (Str × V)) := by
    show (if ("country" : Str) = "passes" then (("country" : Str), d) :: ([(("starts" : Str), b), (("origins" : Str), c)] : List (Str × V)) else (("country" : Str), a) :: (if ("starts" : Str) = "passes" then (("starts" : Str), d) :: ([(("origins" : Str), c)] : List (Str × V)) else (("starts" : Str), b) :: (if ("origins" : Str) = "passes" then (("origins" : Str), d) :: ([] : List (Str × V)) else (("origins" : Str), c) :: ([("passes", d)] : List (Str × V))))) = _
    rw [if_neg neH_country_passes, if_neg neH_starts_passes, if_neg neH_origins_passes]
  rw [e0, e1, e2, e3]
theorem fH_country (a b c d : V) : (fH a b c d).lookup ("country" : Str) = some a := by
  unfold fH
  rw [lookup_putF, if_neg neH_country_passes, lookup_putF, if_neg neH_country_origins, lookup_putF, if_neg neH_country_starts, lookup_putF, if_pos rfl]
theorem fH_starts (a b c d : V) : (fH a b c d).lookup ("starts" : Str) = some b := by
  unfold fH
  rw [lookup_putF, if_neg neH_starts_passes, lookup_putF, if_neg neH_starts_origins, lookup_putF, if_pos rfl]
theorem fH_origins (a b c d : V) : (fH a b c d).lookup ("origins" : Str) = some c := by
  unfold fH
  rw [lookup_putF, if_neg neH_origins_passes, lookup_putF, if_pos rfl]
theorem fH_passes (a b c d : V) : (fH a b c d).lookup ("passes" : Str) = some d := by
  unfold fH
  rw [lookup_putF, if_pos rfl]
theorem fH_no (a b c d : V) (m : Str) (h0 : ¬ m = "country" := by decide +kernel) (h1 : ¬ m = "starts" := by decide +kernel) (h2 : ¬ m = "origins" := by decide +kernel) (h3 : ¬ m = "passes" := by decide +kernel) : (fH a b c d).lookup m = none := by
  unfold fH
  rw [lookup_putF, if_neg h3, lookup_putF, if_neg h2, lookup_putF, if_neg h1, lookup_putF, if_neg h0]
  rfl
theorem fH_set_country (a b c d z : V) : putF "country" z (fH a b c d) = fH z b c d := by
  rw [fH_eq, fH_eq]
  show (if ("country" : Str) = "country" then (("country" : Str), z) :: ([(("starts" : Str), b), (("origins" : Str), c), (("passes" : Str), d)] : List (Str × V)) else (("country" : Str), a) :: putF "country" z ([(("starts" : Str), b), (("origins" : Str), c), (("passes" : Str), d)] : List (Str × V))) = _
  rw [if_pos rfl]
theorem fH_set_starts (a b c d z : V) : putF "starts" z (fH a b c d) = fH a z c d := by
  rw [fH_eq, fH_eq]
  show (if ("country" : Str) = "starts" then (("country" : Str), z) :: ([(("starts" : Str), b), (("origins" : Str), c), (("passes" : Str), d)] : List (Str × V)) else (("country" : Str), a) :: (if ("starts" : Str) = "starts" then (("starts" : Str), z) :: ([(("origins" : Str), c), (("passes" : Str), d)] : List (Str × V)) else (("starts" : Str), b) :: putF "starts" z ([(("origins" : Str), c), (("passes" : Str), d)] : List (Str × V)))) = _
  rw [if_neg neH_country_starts, if_pos rfl]
theorem fH_set_origins (a b c d z : V) : putF "origins" z (fH a b c d) = fH a b z d := by
  rw [fH_eq, fH_eq]
  show (if ("country" : Str) = "origins" then (("country" : Str), z) :: ([(("starts" : Str), b), (("origins" : Str), c), (("passes" : Str), d)] : List (Str × V)) else (("country" : Str), a) :: (if ("starts" : Str) = "origins" then (("starts" : Str), z) :: ([(("origins" : Str), c), (("passes" : Str), d)] : List (Str × V)) else (("starts" : Str), b) :: (if ("origins" : Str) = "origins" then (("origins" : Str), z) :: ([(("passes" : Str), d)] : List (Str × V)) else (("origins" : Str), c) :: putF "origins" z ([(("passes" : Str), d)] : List (Str × V))))) = _
  rw [if_neg neH_country_origins, if_neg neH_starts_origins, if_pos rfl]
theorem fH_set_passes (a b c d z : V) : putF "passes" z (fH a b c d) = fH a b c z := by
  rw [fH_eq, fH_eq]
  show (if ("country" : Str) = "passes" then (("country" : Str), z) :: ([(("starts" : Str), b), (("origins" : Str), c), (("passes" : Str), d)] : List (Str × V)) else (("country" : Str), a) :: (if ("starts" : Str) = "passes" then (("starts" : Str), z) :: ([(("origins" : Str), c), (("passes" : Str), d)] : List (Str × V)) else (("starts" : Str), b) :: (if ("origins" : Str) = "passes" then (("origins" : Str), z) :: ([(("passes" : Str), d)] : List (Str × V)) else (("origins" : Str), c) :: (if ("passes" : Str) = "passes" then (("passes" : Str), z) :: ([] : List (Str × V)) else (("passes" : Str), d) :: putF "passes" z ([] : List (Str × V)))))) = _
  rw [if_neg neH_country_passes, if_neg neH_starts_passes, if_neg neH_origins_passes, if_pos rfl]
theorem fH_len (a b c d : V) : (fH a b c d).length < 1000 := by
  rw [fH_eq]
  show 4 < 1000
  decide
theorem neK_places_held : ¬ (("places" : Str) = "held") := by decide +kernel
theorem neK_places_wanted : ¬ (("places" : Str) = "wanted") := by decide +kernel
theorem neK_places_kept : ¬ (("places" : Str) = "kept") := by decide +kernel
theorem neK_places_known : ¬ (("places" : Str) = "known") := by decide +kernel
theorem neK_held_places : ¬ (("held" : Str) = "places") := by decide +kernel
theorem neK_held_wanted : ¬ (("held" : Str) = "wanted") := by decide +kernel
theorem neK_held_kept : ¬ (("held" : Str) = "kept") := by decide +kernel
theorem neK_held_known : ¬ (("held" : Str) = "known") := by decide +kernel
theorem neK_wanted_places : ¬ (("wanted" : Str) = "places") := by decide +kernel
theorem neK_wanted_held : ¬ (("wanted" : Str) = "held") := by decide +kernel
theorem neK_wanted_kept : ¬ (("wanted" : Str) = "kept") := by decide +kernel
theorem neK_wanted_known : ¬ (("wanted" : Str) = "known") := by decide +kernel
theorem neK_kept_places : ¬ (("kept" : Str) = "places") := by decide +kernel
theorem neK_kept_held : ¬ (("kept" : Str) = "held") := by decide +kernel
theorem neK_kept_wanted : ¬ (("kept" : Str) = "wanted") := by decide +kernel
theorem neK_kept_known : ¬ (("kept" : Str) = "known") := by decide +kernel
theorem neK_known_places : ¬ (("known" : Str) = "places") := by decide +kernel
theorem neK_known_held : ¬ (("known" : Str) = "held") := by decide +kernel
theorem neK_known_wanted : ¬ (("known" : Str) = "wanted") := by decide +kernel
theorem neK_known_kept : ¬ (("known" : Str) = "kept") := by decide +kernel
def fK (a b c d e : V) : List (Str × V) := putF "known" e (putF "kept" d (putF "wanted" c (putF "held" b (putF "places" a []))))
theorem fK_eq (a b c d e : V) : fK a b c d e = ([("places", a), ("held", b), ("wanted", c), ("kept", d), ("known", e)] : List (Str × V)) := by
  unfold fK
  have e0 : putF "places" a ([] : List (Str × V)) = ([(("places" : Str), a)] : List (Str × V)) := by
    rfl
  have e1 : putF "held" b ([(("places" : Str), a)] : List (Str × V)) = ([(("places" : Str), a), (("held" : Str), b)] : List (Str × V)) := by
    show (if ("places" : Str) = "held" then (("places" : Str), b) :: ([] : List (Str × V)) else (("places" : Str), a) :: ([("held", b)] : List (Str × V))) = _
    rw [if_neg neK_places_held]
  have e2 : putF "wanted" c ([(("places" : Str), a), (("held" : Str), b)] : List (Str × V)) = ([(("places" : Str), a), (("held" : Str), b), (("wanted" : Str), c)] : List (Str × V)) := by
    show (if ("places" : Str) = "wanted" then (("places" : Str), c) :: ([(("held" : Str), b)] : List (Str × V)) else (("places" : Str), a) :: (if ("held" : Str) = "wanted" then (("held" : Str), c) :: ([] : List (Str × V)) else (("held" : Str), b) :: ([("wanted", c)] : List (Str × V)))) = _
    rw [if_neg neK_places_wanted, if_neg neK_held_wanted]
  have e3 : putF "kept" d ([(("places" : Str), a), (("held" : Str), b), (("wanted" : Str), c)] : List (Str × V)) = ([(("places" : Str), a), (("held" : Str), b), (("wanted" : Str), c), (("kept" : Str), d)] : List (Str × V)) := by
    show (if ("places" : Str) = "kept" then (("places" : Str), d) :: ([(("held" : Str), b), (("wanted" : Str), c)] : List (Str × V)) else (("places" : Str), a) :: (if ("held" : Str) = "kept" then (("held" : Str), d) :: ([(("wanted" : Str), c)] : List (Str × V)) else (("held" : Str), b) :: (if ("wanted" : Str) = "kept" then (("wanted" : Str), d) :: ([] : List (Str × V)) else (("wanted" : Str), c) :: ([("kept", d)] : List (Str × V))))) = _
    rw [if_neg neK_places_kept, if_neg neK_held_kept, if_neg neK_wanted_kept]
  have e4 : putF "known" e ([(("places" : Str), a), (("held" : Str), b), (("wanted" : Str), c), (("kept" : Str), d)] : List (Str × V)) = ([(("places" : Str), a), (("held" : Str), b), (("wanted" : Str), c), (("kept" : Str), d), (("known" : Str), e)] : List (Str × V)) := by
    show (if ("places" : Str) = "known" then (("places" : Str), e) :: ([(("held" : Str), b), (("wanted" : Str), c), (("kept" : Str), d)] : List (Str × V)) else (("places" : Str), a) :: (if ("held" : Str) = "known" then (("held" : Str), e) :: ([(("wanted" : Str), c), (("kept" : Str), d)] : List (Str × V)) else (("held" : Str), b) :: (if ("wanted" : Str) = "known" then (("wanted" : Str), e) :: ([(("kept" : Str), d)] : List (Str × V)) else (("wanted" : Str), c) :: (if ("kept" : Str) = "known" then (("kept" : Str), e) :: ([] : List (Str × V)) else (("kept" : Str), d) :: ([("known", e)] : List (Str × V)))))) = _
    rw [if_neg neK_places_known, if_neg neK_held_known, if_neg neK_wanted_known, if_neg neK_kept_known]
  rw [e0, e1, e2, e3, e4]
theorem fK_places (a b c d e : V) : (fK a b c d e).lookup ("places" : Str) = some a := by
  unfold fK
  rw [lookup_putF, if_neg neK_places_known, lookup_putF, if_neg neK_places_kept, lookup_putF, if_neg neK_places_wanted, lookup_putF, if_neg neK_places_held, lookup_putF, if_pos rfl]
theorem fK_held (a b c d e : V) : (fK a b c d e).lookup ("held" : Str) = some b := by
  unfold fK
  rw [lookup_putF, if_neg neK_held_known, lookup_putF, if_neg neK_held_kept, lookup_putF, if_neg neK_held_wanted, lookup_putF, if_pos rfl]
theorem fK_wanted (a b c d e : V) : (fK a b c d e).lookup ("wanted" : Str) = some c := by
  unfold fK
  rw [lookup_putF, if_neg neK_wanted_known, lookup_putF, if_neg neK_wanted_kept, lookup_putF, if_pos rfl]
theorem fK_kept (a b c d e : V) : (fK a b c d e).lookup ("kept" : Str) = some d := by
  unfold fK
  rw [lookup_putF, if_neg neK_kept_known, lookup_putF, if_pos rfl]
theorem fK_known (a b c d e : V) : (fK a b c d e).lookup ("known" : Str) = some e := by
  unfold fK
  rw [lookup_putF, if_pos rfl]
theorem fK_no (a b c d e : V) (m : Str) (h0 : ¬ m = "places" := by decide +kernel) (h1 : ¬ m = "held" := by decide +kernel) (h2 : ¬ m = "wanted" := by decide +kernel) (h3 : ¬ m = "kept" := by decide +kernel) (h4 : ¬ m = "known" := by decide +kernel) : (fK a b c d e).lookup m = none := by
  unfold fK
  rw [lookup_putF, if_neg h4, lookup_putF, if_neg h3, lookup_putF, if_neg h2, lookup_putF, if_neg h1, lookup_putF, if_neg h0]
  rfl
theorem fK_set_places (a b c d e z : V) : putF "places" z (fK a b c d e) = fK z b c d e := by
  rw [fK_eq, fK_eq]
  show (if ("places" : Str) = "places" then (("places" : Str), z) :: ([(("held" : Str), b), (("wanted" : Str), c), (("kept" : Str), d), (("known" : Str), e)] : List (Str × V)) else (("places" : Str), a) :: putF "places" z ([(("held" : Str), b), (("wanted" : Str), c), (("kept" : Str), d), (("known" : Str), e)] : List (Str × V))) = _
  rw [if_pos rfl]
theorem fK_set_held (a b c d e z : V) : putF "held" z (fK a b c d e) = fK a z c d e := by
  rw [fK_eq, fK_eq]
  show (if ("places" : Str) = "held" then (("places" : Str), z) :: ([(("held" : Str), b), (("wanted" : Str), c), (("kept" : Str), d), (("known" : Str), e)] : List (Str × V)) else (("places" : Str), a) :: (if ("held" : Str) = "held" then (("held" : Str), z) :: ([(("wanted" : Str), c), (("kept" : Str), d), (("known" : Str), e)] : List (Str × V)) else (("held" : Str), b) :: putF "held" z ([(("wanted" : Str), c), (("kept" : Str), d), (("known" : Str), e)] : List (Str × V)))) = _
  rw [if_neg neK_places_held, if_pos rfl]
theorem fK_set_wanted (a b c d e z : V) : putF "wanted" z (fK a b c d e) = fK a b z d e := by
  rw [fK_eq, fK_eq]
  show (if ("places" : Str) = "wanted" then (("places" : Str), z) :: ([(("held" : Str), b), (("wanted" : Str), c), (("kept" : Str), d), (("known" : Str), e)] : List (Str × V)) else (("places" : Str), a) :: (if ("held" : Str) = "wanted" then (("held" : Str), z) :: ([(("wanted" : Str), c), (("kept" : Str), d), (("known" : Str), e)] : List (Str × V)) else (("held" : Str), b) :: (if ("wanted" : Str) = "wanted" then (("wanted" : Str), z) :: ([(("kept" : Str), d), (("known" : Str), e)] : List (Str × V)) else (("wanted" : Str), c) :: putF "wanted" z ([(("kept" : Str), d), (("known" : Str), e)] : List (Str × V))))) = _
  rw [if_neg neK_places_wanted, if_neg neK_held_wanted, if_pos rfl]
theorem fK_set_kept (a b c d e z : V) : putF "kept" z (fK a b c d e) = fK a b c z e := by
  rw [fK_eq, fK_eq]
  show (if ("places" : Str) = "kept" then (("places" : Str), z) :: ([(("held" : Str), b), (("wanted" : Str), c), (("kept" : Str), d), (("known" : Str), e)] : List (Str × V)) else (("places" : Str), a) :: (if ("held" : Str) = "kept" then (("held" : Str), z) :: ([(("wanted" : Str), c), (("kept" : Str), d), (("known" : Str), e)] : List (Str × V)) else (("held" : Str), b) :: (if ("wanted" : Str) = "kept" then (("wanted" : Str), z) :: ([(("kept" : Str), d), (("known" : Str), e)] : List (Str × V)) else (("wanted" : Str), c) :: (if ("kept" : Str) = "kept" then (("kept" : Str), z) :: ([(("known" : Str), e)] : List (Str × V)) else (("kept" : Str), d) :: putF "kept" z ([(("known" : Str), e)] : List (Str × V)))))) = _
  rw [if_neg neK_places_kept, if_neg neK_held_kept, if_neg neK_wanted_kept, if_pos rfl]
theorem fK_set_known (a b c d e z : V) : putF "known" z (fK a b c d e) = fK a b c d z := by
  rw [fK_eq, fK_eq]
  show (if ("places" : Str) = "known" then (("places" : Str), z) :: ([(("held" : Str), b), (("wanted" : Str), c), (("kept" : Str), d), (("known" : Str), e)] : List (Str × V)) else (("places" : Str), a) :: (if ("held" : Str) = "known" then (("held" : Str), z) :: ([(("wanted" : Str), c), (("kept" : Str), d), (("known" : Str), e)] : List (Str × V)) else (("held" : Str), b) :: (if ("wanted" : Str) = "known" then (("wanted" : Str), z) :: ([(("kept" : Str), d), (("known" : Str), e)] : List (Str × V)) else (("wanted" : Str), c) :: (if ("kept" : Str) = "known" then (("kept" : Str), z) :: ([(("known" : Str), e)] : List (Str × V)) else (("kept" : Str), d) :: (if ("known" : Str) = "known" then (("known" : Str), z) :: ([] : List (Str × V)) else (("known" : Str), e) :: putF "known" z ([] : List (Str × V))))))) = _
  rw [if_neg neK_places_known, if_neg neK_held_known, if_neg neK_wanted_known, if_neg neK_kept_known, if_pos rfl]
theorem fK_len (a b c d e : V) : (fK a b c d e).length < 1000 := by
  rw [fK_eq]
  show 5 < 1000
  decide
end Tr


set_option Elab.async false
set_option linter.all false
set_option maxRecDepth 100000
set_option maxHeartbeats 4000000
/-! steps, effects -/
namespace Tr
open PySem PySem.Spec PyProof.Rows L2
section
variable {P : Program} {w : World} {K : PySem.W.Frag} {mg : Str → Option Value} {base : Heap}

abbrev sStepped : Stmt := top 15
theorem scStepped : FnScope ["store", "level", "change", "behind"] ["store", "level", "change"] (defScope sStepped) := ⟨rfl, rfl, rfl, by decide +kernel, rfl, by decide +kernel, by decide +kernel⟩
def spStepped : Sp := fun vs H Q _ => ∃ (S x c : Int), vs = [.int S, .int x, .int c] ∧ Q (ov (stepF S x c)) H
theorem cal_stepped (T : Blt mg) (D : Dfn K mg "stepped" sStepped) : Cal P w K mg base "stepped" 1 ["store", "level", "change"] spStepped := by
  obtain ⟨f, fd, F, m⟩ := D
  refine ⟨f, fd, F.ok scStepped (fun vs H Q E h => ?_) (fun cdv A outer s H vs Q E hr h => ?_), m, F.kp, F.binds fun _ _ _ _ _ _ us hl => match us, hl with | [_, _, _], _ => rfl⟩
  · obtain ⟨S, x, c, rfl, _⟩ := h
    rfl
  · obtain ⟨S, x, c, rfl, k⟩ := h
    refine ⟨_, pss_cons (ps_set (i := 3) scStepped.nd rfl (.inl rfl) (pe_op op_add (pv 1) (pv 2)))
      (pss_cons (ps_if (pt_cmpR op_lt (pv 3) pe_int (nomark _)) (pss_one (ps_ret pe_non)) pss_nil)
      (pss_one (ps_ret (pe_callB (call_min2 rfl) (by rfl) T.min (by decide +kernel) (pa_cons (pv 0) (pa_cons (pv 3) pa_nil)))))), ?_⟩
    refine ⟨_, rfl, _, rfl, _, _, rfl, rfl, ?_⟩
    refine ⟨_, rfl, _, _, rfl, rfl, _, rfl, ?_⟩
    unfold stepF at k
    by_cases h0 : x + c < 0
    · rw [if_pos h0] at k
      rw [if_pos (decide_eq_true h0)]
      exact k
    · rw [if_neg h0] at k
      rw [if_neg (by simpa using h0)]
      exact ⟨_, rfl, _, rfl, _, _, rfl, k⟩

abbrev sLevels : Stmt := top 16
theorem scLevels : FnScope ["store", "level", "changes", "levels", "change"] ["store", "level", "changes"] (defScope sLevels) := ⟨rfl, rfl, rfl, by decide +kernel, rfl, by decide +kernel, by decide +kernel⟩
def spLevels (K : PySem.W.Frag) : Sp := fun vs H Q _ => ∃ (S x : Int) (a : Addr) (cs : List Int), vs = [.int S, .int x, .ref a] ∧ SqL K H a (cs.map V.int) ∧ cs.length ≤ 1000 ∧
  ∀ H' p, H p = none → Same H H' → H' p = some (.lst ((lvF S x cs).map V.int)) → Q (.ref p) H'
theorem cal_levels (C1 : Cal P w K mg base "stepped" 1 ["store", "level", "change"] spStepped) (D : Dfn K mg "levels_along" sLevels) : Cal P w K mg base "levels_along" 2 ["store", "level", "changes"] (spLevels K) := by
  obtain ⟨f, fd, F, m⟩ := D
  obtain ⟨f1, fd1, G1, m1, k1, b1⟩ := C1
  refine ⟨f, fd, F.ok scLevels (fun vs H Q E h => ?_) (fun cdv A outer s H vs Q E hr h => ?_), m, F.kp, F.binds fun _ _ _ _ _ _ us hl => match us, hl with | [_, _, _], _ => rfl⟩
  · obtain ⟨S, x, a, cs, rfl, _⟩ := h
    rfl
  · obtain ⟨S, x, a, cs, rfl, hS, hlen, k⟩ := h
    refine ⟨_, pss_cons (ps_set (i := 3) scLevels.nd rfl (.inl rfl) (pe_lst (pa_cons (pv 1) pa_nil)))
      (pss_cons (ps_for PassesOwn.never rfl (pi_list (pv 2)) (pg_name (i := 4) scLevels.nd rfl (Or.inl rfl))
        (pss_cons (ps_set (i := 1) scLevels.nd rfl (.inl rfl) (pe_call G1 hr rfl m1 k1 b1 .nil pass0 (pa_cons (pv 0) (pa_cons (pv 1) (pa_cons (pv 4) pa_nil)))))
        (pss_cons (ps_if (pt_cmpR op_isN (pv 1) pe_non (nomark _)) (pss_one (ps_ret (pv 3))) pss_nil)
        (pss_one (ps_expr (pe_bm PySem.F.plainAttrs_list PySem.F.slot_list_append PySem.F.type_list_append mt_append (pv 3) (pa_cons (pv 1) pa_nil)))))))
      (pss_one (ps_ret (pv 3)))), ?_⟩
    refine ⟨_, rfl, by show 1 ≤ sizeLine; decide, fun p hp => ?_⟩
    have hS' : SqL K (upd H p (.lst [.int x])) a (cs.map V.int) := (Same.new hp).seq hS
    refine ⟨_, rfl, a, rfl, ⟨_, hS'⟩, for_list (K := K) (a := a) (xs := cs.map V.int) (fun i σ H2 => ∃ (y : Int) (ys : List Int) (v : Option V), σ = [some (.int S), some (.int y), some (.ref a), some (.ref p), v] ∧ Same H H2 ∧ i ≤ cs.length ∧
        H2 p = some (.lst ((ys ++ [y]).map V.int)) ∧ ys.length = i ∧ lvF S x cs = ys ++ lvF S y (cs.drop i))
      ⟨x, [], none, rfl, Same.new hp, Nat.zero_le _, upd_same, rfl, rfl⟩ (fun i σ H2 _ ⟨_, _, _, _, s2, _⟩ => s2.seq hS) ?_ ?_⟩
    · rintro i v σ H2 hi ⟨y, ys, v0, rfl, s2, hil, hpl, hyl, e⟩
      obtain ⟨c, hc, rfl⟩ : ∃ c, cs[i]? = some c ∧ v = V.int c := by
        rw [List.getElem?_map] at hi
        cases q : cs[i]? with
        | none => rw [q] at hi; cases hi
        | some c => rw [q] at hi; exact ⟨c, rfl, (Option.some.inj hi).symm⟩
      have hi' : i < cs.length := (List.getElem?_eq_some_iff.mp hc).1
      have hd : cs.drop i = c :: cs.drop (i + 1) := by
        rw [List.drop_eq_getElem_cons hi']
        rw [List.getElem?_eq_getElem hi'] at hc
        rw [Option.some.inj hc]
      have hl : lvF S y (c :: cs.drop (i + 1)) = (match stepF S y c with | none => [y] | some z => y :: lvF S z (cs.drop (i + 1))) := rfl
      rw [hd, hl] at e
      refine ⟨_, rfl, _, rfl, _, rfl, S, y, c, rfl, ?_⟩
      refine ⟨_, rfl, rfl, _, rfl, ?_⟩
      cases q : stepF S y c with
      | none =>
        rw [q] at e
        refine iteT ?_
        exact ⟨_, rfl, k H2 p hp s2 (by rw [e]; exact hpl)⟩
      | some z =>
        rw [q] at e
        refine iteF ?_
        refine ⟨_, rfl, .inl ⟨rfl, _, SqL.of hpl⟩, _, rfl, p, _, _, rfl, rfl, hpl, small1000 (by simp; omega), ?_⟩
        exact ⟨z, ys ++ [y], _, rfl, s2.mut hp, hi', by rw [upd_same]; simp [ov], by simp [hyl], by rw [e]; simp⟩
    · rintro σ H2 ⟨y, ys, v0, rfl, s2, hil, hpl, hyl, e⟩
      have hd : cs.drop (cs.map V.int).length = [] := by simp
      rw [hd] at e
      refine ⟨_, rfl, k H2 p hp s2 ?_⟩
      rw [hpl, e]
      rfl
/-! effects -/
def ev (e : Ef) : List V := [.int e.1, .int e.2.1, .int e.2.2]
abbrev sJoined : Stmt := top 3
theorem scJoined : FnScope ["one", "other", "least"] ["one", "other"] (defScope sJoined) := ⟨rfl, rfl, rfl, by decide +kernel, rfl, by decide +kernel, by decide +kernel⟩
def spJoined (K : PySem.W.Frag) : Sp := fun vs H Q _ => ∃ (a b : Addr) (e1 e2 : Ef), vs = [.ref a, .ref b] ∧ H a = some (.tup (ev e1)) ∧ H b = some (.tup (ev e2)) ∧
  (joinF e1 e2 = none → Q .non H) ∧ ∀ e, joinF e1 e2 = some e → ∀ p, H p = none → Q (.ref p) (upd H p (.tup (ev e)))
theorem cal_joined (T : Blt mg) (D : Dfn K mg "joined" sJoined) : Cal P w K mg base "joined" 1 ["one", "other"] (spJoined K) := by
  obtain ⟨f, fd, F, m⟩ := D
  refine ⟨f, fd, F.ok scJoined (fun vs H Q E h => ?_) (fun cdv A outer s H vs Q E hr h => ?_), m, F.kp, F.binds fun _ _ _ _ _ _ us hl => match us, hl with | [_, _], _ => rfl⟩
  · obtain ⟨a, b, e1, e2, rfl, _⟩ := h
    rfl
  · obtain ⟨a, b, e1, e2, rfl, ha, hb, k0, k1⟩ := h
    refine ⟨_, pss_cons (ps_if (pt_cmpR op_lt (pe_ix ix_tup (pv 0) pe_int (fun _ _ => rfl)) (pe_ix ix_tup (pv 1) pe_int (fun _ _ => rfl)) (nomark _)) (pss_one (ps_ret pe_non)) pss_nil)
      (pss_cons (ps_set (i := 2) scJoined.nd rfl (.inl rfl) (pe_callB (call_max2 rfl) (by rfl) T.max (by decide +kernel) (pa_cons (pe_ix ix_tup (pv 0) pe_int (fun _ _ => rfl))
        (pa_cons (pe_op op_sub (pe_ix ix_tup (pv 1) pe_int (fun _ _ => rfl)) (pe_ix ix_tup (pv 0) pe_int (fun _ _ => rfl))) pa_nil))))
      (pss_one (ps_ret (pe_tup (pa_cons (pv 2) (pa_cons (pe_op op_add (pe_ix ix_tup (pv 0) pe_int (fun _ _ => rfl)) (pe_ix ix_tup (pv 1) pe_int (fun _ _ => rfl)))
        (pa_cons (pe_callB (call_min2 rfl) (by rfl) T.min (by decide +kernel) (pa_cons (pe_op op_add (pe_ix ix_tup (pv 0) pe_int (fun _ _ => rfl)) (pe_ix ix_tup (pv 1) pe_int (fun _ _ => rfl)))
          (pa_cons (pe_ix ix_tup (pv 1) pe_int (fun _ _ => rfl)) pa_nil))) pa_nil))))))), ?_⟩
    have A (i : Nat) (v : V) (h : (ev e1)[i]? = some v) : atI (ev e1) (i : Int) = some v := atI_nat h
    have B (i : Nat) (v : V) (h : (ev e2)[i]? = some v) : atI (ev e2) (i : Int) = some v := atI_nat h
    refine ⟨_, rfl, a, _, 2, _, rfl, rfl, SqT.of ha, A 2 _ rfl, _, rfl, b, _, 0, _, rfl, rfl, SqT.of hb, B 0 _ rfl, _, _, rfl, rfl, _, rfl, ?_⟩
    unfold joinF at k0 k1
    by_cases h0 : e1.2.2 < e2.1
    · rw [if_pos h0] at k0
      rw [if_pos (decide_eq_true h0)]
      exact k0 rfl
    · rw [if_neg h0] at k1
      rw [if_neg (by simpa using h0)]
      refine ⟨_, rfl, a, _, 0, _, rfl, rfl, SqT.of ha, A 0 _ rfl, _, rfl, b, _, 0, _, rfl, rfl, SqT.of hb, B 0 _ rfl, _, rfl, a, _, 1, _, rfl, rfl, SqT.of ha, A 1 _ rfl, _, _, rfl, rfl, _, _, rfl, ?_⟩
      refine ⟨_, rfl, _, rfl, a, _, 1, _, rfl, rfl, SqT.of ha, A 1 _ rfl, _, rfl, b, _, 1, _, rfl, rfl, SqT.of hb, B 1 _ rfl, _, _, rfl, rfl, ?_⟩
      refine ⟨_, rfl, a, _, 2, _, rfl, rfl, SqT.of ha, A 2 _ rfl, _, rfl, b, _, 1, _, rfl, rfl, SqT.of hb, B 1 _ rfl, _, _, rfl, rfl, _, rfl, b, _, 2, _, rfl, rfl, SqT.of hb, B 2 _ rfl, _, _, rfl, (by show 3 ≤ sizeLine; decide), fun p hp => ?_⟩
      exact k1 _ rfl p hp

abbrev sEffect : Stmt := top 4
theorem scEffect : FnScope ["store", "changes", "effect", "change"] ["store", "changes"] (defScope sEffect) := ⟨rfl, rfl, rfl, by decide +kernel, rfl, by decide +kernel, by decide +kernel⟩
def spEffect (K : PySem.W.Frag) : Sp := fun vs H Q _ => ∃ (S : Int) (a : Addr) (cs : List Int), vs = [.int S, .ref a] ∧ SqL K H a (cs.map V.int) ∧
  (∀ H', effG S (0, 0, S) cs = none → Same H H' → Q .non H') ∧ ∀ e H' p, effG S (0, 0, S) cs = some e → H p = none → Same H H' → H' p = some (.tup (ev e)) → Q (.ref p) H'
theorem cal_effect (T : Blt mg) (C1 : Cal P w K mg base "joined" 1 ["one", "other"] (spJoined K)) (D : Dfn K mg "effect_of" sEffect) : Cal P w K mg base "effect_of" 2 ["store", "changes"] (spEffect K) := by
  obtain ⟨f, fd, F, m⟩ := D
  obtain ⟨f1, fd1, G1, m1, k1, b1⟩ := C1
  refine ⟨f, fd, F.ok scEffect (fun vs H Q E h => ?_) (fun cdv A outer s H vs Q E hr h => ?_), m, F.kp, F.binds fun _ _ _ _ _ _ us hl => match us, hl with | [_, _], _ => rfl⟩
  · obtain ⟨S, a, cs, rfl, _⟩ := h
    rfl
  · obtain ⟨S, a, cs, rfl, hS, kn, ks⟩ := h
    refine ⟨_, pss_cons (ps_set (i := 2) scEffect.nd rfl (.inl rfl) (pe_tup (pa_cons pe_int (pa_cons pe_int (pa_cons (pv 0) pa_nil)))))
      (pss_cons (ps_for PassesOwn.never rfl (pi_list (pv 1)) (pg_name (i := 3) scEffect.nd rfl (Or.inl rfl))
        (pss_cons (ps_if (pt_cmpR op_lt (pe_op op_add (pv 0) (pv 3)) pe_int (nomark _)) (pss_one (ps_ret pe_non)) pss_nil)
        (pss_cons (ps_set (i := 2) scEffect.nd rfl (.inl rfl) (pe_call G1 hr rfl m1 k1 b1 .nil pass0 (pa_cons (pv 2) (pa_cons (pe_tup (pa_cons (pe_callB (call_max2 rfl) (by rfl) T.max (by decide +kernel) (pa_cons pe_int (pa_cons (pe_op op_sub pe_int (pv 3)) pa_nil)))
          (pa_cons (pv 3) (pa_cons (pe_callB (call_min2 rfl) (by rfl) T.min (by decide +kernel) (pa_cons (pv 0) (pa_cons (pe_op op_add (pv 0) (pv 3)) pa_nil))) pa_nil)))) pa_nil))))
        (pss_one (ps_if (pt_cmpR op_isN (pv 2) pe_non (nomark _)) (pss_one (ps_ret pe_non)) pss_nil)))))
      (pss_one (ps_ret (pv 2)))), ?_⟩
    refine ⟨_, rfl, (by show 3 ≤ sizeLine; decide), fun p hp => ?_⟩
    refine ⟨_, rfl, a, rfl, ⟨_, (Same.new hp).seq hS⟩, for_list (K := K) (a := a) (xs := cs.map V.int) (fun i σ H2 => ∃ (e : Ef) (q : Addr) (v : Option V), σ = [some (.int S), some (.ref a), some (.ref q), v] ∧ Same H H2 ∧ i ≤ cs.length ∧ H q = none ∧
        H2 q = some (.tup (ev e)) ∧ effG S (0, 0, S) cs = effG S e (cs.drop i))
      ⟨(0, 0, S), p, none, rfl, Same.new hp, Nat.zero_le _, hp, upd_same, rfl⟩ (fun i σ H2 _ ⟨_, _, _, _, s2, _⟩ => s2.seq hS) ?_ ?_⟩
    · rintro i v σ H2 hi ⟨e, q, v0, rfl, s2, hil, hq, hq2, eq⟩
      obtain ⟨c, hc, rfl⟩ : ∃ c, cs[i]? = some c ∧ v = V.int c := by
        rw [List.getElem?_map] at hi
        cases q : cs[i]? with
        | none => rw [q] at hi; cases hi
        | some c => rw [q] at hi; exact ⟨c, rfl, (Option.some.inj hi).symm⟩
      have hi' : i < cs.length := (List.getElem?_eq_some_iff.mp hc).1
      have hd : cs.drop i = c :: cs.drop (i + 1) := by
        rw [List.drop_eq_getElem_cons hi']
        rw [List.getElem?_eq_getElem hi'] at hc
        rw [Option.some.inj hc]
      have hl : effG S e (c :: cs.drop (i + 1)) = (if S + c < 0 then none else match joinF e (oneF S c) with | none => none | some e' => effG S e' (cs.drop (i + 1))) := rfl
      rw [hd, hl] at eq
      refine ⟨_, rfl, _, rfl, _, _, rfl, rfl, _, _, rfl, rfl, _, rfl, ?_⟩
      by_cases h0 : S + c < 0
      · rw [if_pos h0] at eq
        refine iteY h0 ?_
        exact kn H2 eq s2
      · rw [if_neg h0] at eq
        refine iteN h0 ?_
        refine ⟨_, rfl, _, rfl, _, _, rfl, rfl, _, _, rfl, _, rfl, _, rfl, _, rfl, _, rfl, _, _, rfl, rfl, _, _, rfl, (by show 3 ≤ sizeLine; decide), fun p2 hp2 => ?_⟩
        have s3 : Same H (upd H2 p2 (.tup (ev (oneF S c)))) := s2.trans (Same.new hp2)
        refine ⟨q, p2, e, oneF S c, rfl, by rw [upd_ne (ne_of_none hq2 hp2)]; exact hq2, upd_same, fun hn => ?_, fun e' he' p3 hp3 => ?_⟩
        · rw [hn] at eq
          refine ⟨_, rfl, rfl, _, rfl, iteT ?_⟩
          exact kn _ eq s3
        · rw [he'] at eq
          refine ⟨_, rfl, rfl, _, rfl, iteF ?_⟩
          have s4 := s3.trans (Same.new (o := .tup (ev e')) hp3)
          exact ⟨e', p3, _, rfl, s4, hi', s3.free hp3, upd_same, eq⟩
    · rintro σ H2 ⟨e, q, v0, rfl, s2, hil, hq, hq2, eq⟩
      have hd : cs.drop (cs.map V.int).length = [] := by simp
      rw [hd] at eq
      exact ⟨_, rfl, ks e H2 q eq hq s2 hq2⟩
end
end Tr


set_option Elab.async false
set_option linter.all false
set_option maxRecDepth 100000
set_option maxHeartbeats 4000000
/-! class Passes -/
namespace Tr
open PySem PySem.Spec PyProof.Rows L2
structure TxtP (K : PySem.W.Frag) (C : Addr) : Prop where
  cl : Cls K C
  nC : NoAttr K C "country"
  nB : NoAttr K C "bound"
  nT : NoAttr K C "tables"
  nM : NoAttr K C "made"
structure PsAt (C : Addr) (H0 H : Hp) (p lnd : Addr) (S : Int) (ts : List Tb) (ms : List (List (Option Nat))) (dx ta ma : Addr) (tas mas : List Addr) : Prop where
  ob : H p = some (.ins C dx (fP (.ref lnd) (.int S) (.ref ta) (.ref ma)))
  tl : H ta = some (.lst (tas.map V.ref))
  ml : H ma = some (.lst (mas.map V.ref))
  tr : RowsAt H tas (ts.map tv)
  mr : RowsAt H mas (ms.map mv)
  n0 : H0 p = none
  n1 : H0 ta = none
  n2 : H0 ma = none
  d : ta ≠ ma
  dt : ∀ b ∈ tas, b ≠ ta ∧ b ≠ ma
  dm : ∀ b ∈ mas, b ≠ ta ∧ b ≠ ma
theorem PsAt.same {C : Addr} {H0 H H' : Hp} {p lnd : Addr} {S : Int} {ts : List Tb} {ms : List (List (Option Nat))} {dx ta ma : Addr} {tas mas : List Addr} (h : PsAt C H0 H p lnd S ts ms dx ta ma tas mas) (k : Same H H') : PsAt C H0 H' p lnd S ts ms dx ta ma tas mas :=
  ⟨k _ _ h.ob, k _ _ h.tl, k _ _ h.ml, h.tr.same k, h.mr.same k, h.n0, h.n1, h.n2, h.d, h.dt, h.dm⟩
theorem PsAt.tab {C : Addr} {H0 H : Hp} {p lnd : Addr} {S : Int} {ts : List Tb} {ms : List (List (Option Nat))} {dx ta ma : Addr} {tas mas : List Addr} (h : PsAt C H0 H p lnd S ts ms dx ta ma tas mas) {i : Nat} {t : Tb} (e : ts[i]? = some t) :
    ∃ a, (tas.map V.ref)[i]? = some (.ref a) ∧ H a = some (.lst (tv t)) := by
  obtain ⟨b, h1, h2⟩ := h.tr.get (i := i) (vs := tv t) (by rw [List.getElem?_map, e]; rfl)
  exact ⟨b, by rw [List.getElem?_map, h1]; rfl, h2⟩
theorem PsAt.mad {C : Addr} {H0 H : Hp} {p lnd : Addr} {S : Int} {ts : List Tb} {ms : List (List (Option Nat))} {dx ta ma : Addr} {tas mas : List Addr} (h : PsAt C H0 H p lnd S ts ms dx ta ma tas mas) {i : Nat} {t : List (Option Nat)} (e : ms[i]? = some t) :
    ∃ a, (mas.map V.ref)[i]? = some (.ref a) ∧ H a = some (.lst (mv t)) := by
  obtain ⟨b, h1, h2⟩ := h.mr.get (i := i) (vs := mv t) (by rw [List.getElem?_map, e]; rfl)
  exact ⟨b, by rw [List.getElem?_map, h1]; rfl, h2⟩
theorem PsAt.tlen {C : Addr} {H0 H : Hp} {p lnd : Addr} {S : Int} {ts : List Tb} {ms : List (List (Option Nat))} {dx ta ma : Addr} {tas mas : List Addr} (h : PsAt C H0 H p lnd S ts ms dx ta ma tas mas) : (tas.map V.ref).length = ts.length := by
  have := h.tr.1
  rw [List.length_map] at this ⊢
  exact this
theorem PsAt.mlen {C : Addr} {H0 H : Hp} {p lnd : Addr} {S : Int} {ts : List Tb} {ms : List (List (Option Nat))} {dx ta ma : Addr} {tas mas : List Addr} (h : PsAt C H0 H p lnd S ts ms dx ta ma tas mas) : (mas.map V.ref).length = ms.length := by
  have := h.mr.1
  rw [List.length_map] at this ⊢
  exact this
section
variable {P : Program} {w : World} {K : PySem.W.Frag} {mg : Str → Option Value} {base : Heap} {C : Addr}

abbrev sGo : Stmt := inClass (top 18) 1
abbrev nGo : List Str := ["self", "old", "new", "made", "number", "start", "end", "change", "behind", "place"]
theorem scGo : FnScope nGo ["self"] (defScope sGo) := ⟨rfl, rfl, rfl, by decide +kernel, rfl, by decide +kernel, by decide +kernel⟩
def spGo (C : Addr) : Sp := fun vs H Q _ => ∃ (H0 : Hp) (p lnd wl : Addr) (las : List Addr) (n : Nat) (S : Int) (ways : List W3) (ts : List Tb) (ms : List (List (Option Nat))) (t : Tb) (dx ta ma : Addr) (tas mas : List Addr),
  vs = [.ref p] ∧ Same H0 H ∧ LandAt H0 lnd n ways wl las ∧ PsAt C H0 H p lnd S ts ms dx ta ma tas mas ∧ ts[ts.length - 1]? = some t ∧ t.length = n ∧ WOk n ways ∧ n ≤ 100 ∧ ts.length ≤ 100 ∧ ms.length = ts.length ∧
  ∀ H' tas' mas', Same H0 H' → PsAt C H0 H' p lnd S (ts ++ [(goF S ways t).1]) (ms ++ [(goF S ways t).2]) dx ta ma tas' mas' → Q (.bl (!decide ((goF S ways t).1 = t))) H'
set_option maxHeartbeats 16000000 in
theorem cal_go (T : Blt mg) (TP : TxtP K C) (C1 : Cal P w K mg base "stepped" 1 ["store", "level", "change"] spStepped) (D : DfnM K C "go" "Passes.go" sGo) : MCal P w K mg base C "go" 2 ["self"] (spGo C) := by
  obtain ⟨f, fd, F, m⟩ := D
  obtain ⟨f1, fd1, G1, m1, k1, b1⟩ := C1
  refine ⟨f, fd, F.ok scGo (fun vs H Q E h => ?_) (fun cdv A outer s H vs Q E hr h => ?_), m, F.binds fun _ _ _ _ _ _ us hl => match us, hl with | [_], _ => rfl⟩
  · obtain ⟨H0, p, lnd, wl, las, n, S, ways, ts, ms, t, dx, ta, ma, tas, mas, rfl, _⟩ := h
    rfl
  · obtain ⟨H0, p, lnd, wl, las, n, S, ways, ts, ms, t, dx, ta, ma, tas, mas, rfl, s0, L, I, ht, htn, hw, hn, htl, hml, k⟩ := h
    refine ⟨_, pss_cons (ps_set (i := 1) scGo.nd rfl (.inl rfl) (pe_ix ix_list (pe_fld (pv 0) rfl) (pe_un un_neg pe_int) (fun _ _ => rfl)))
      (pss_cons (ps_set (i := 2) scGo.nd rfl (.inl rfl) (pe_callTy call_list_of (by rfl) T.list (by decide +kernel) (pa_cons (pv 1) pa_nil)))
      (pss_cons (ps_setLc (i := 3) (own := [("place", 9)]) (g := gName 9) (tt := tYes) rfl scGo.nd rfl rfl (sw_true rfl rfl rfl (by decide +kernel)) (pi_list (pv 1)) (blkOk_by (N := nGo) (sc := defScope sGo) (by decide +kernel))
        (fun _ _ _ _ _ => pg_name (i := 9) scGo.nd rfl (Or.inl rfl)) (fun _ _ _ _ _ => pts_nil) (fun _ _ _ _ _ => pe_non))
      (pss_cons (ps_for PassesOwn.never rfl (pi_enum (by rfl) T.enumerate (pa_cons (pe_ix ix_tup (pe_fld (pv 0) rfl) pe_int (fun _ _ => rfl)) pa_nil))
          (pg_tup rfl (pgs_cons (pg_name (i := 4) scGo.nd rfl (Or.inl rfl)) (pgs_cons (pg_tup rfl (pgs_cons (pg_name (i := 5) scGo.nd rfl (Or.inl rfl)) (pgs_cons (pg_name (i := 6) scGo.nd rfl (Or.inl rfl)) (pgs_cons (pg_name (i := 7) scGo.nd rfl (Or.inl rfl)) pgs_nil)))) pgs_nil)))
        (pss_one (ps_if (pt_cmpR op_notN (pe_ix ix_list (pv 1) (pv 5) (fun _ _ => rfl)) pe_non (nomark _))
          (pss_cons (ps_set (i := 8) scGo.nd rfl (.inl rfl) (pe_call G1 hr rfl m1 k1 b1 .nil pass0 (pa_cons (pe_fld (pv 0) rfl) (pa_cons (pe_ix ix_list (pv 1) (pv 5) (fun _ _ => rfl)) (pa_cons (pv 7) pa_nil)))))
          (pss_one (ps_if (PW.pt (pw_and (pt_cmpR op_notN (pv 8) pe_non (nomark _)) (pw_and1 (PW.pt (pw_or (pt_cmpR op_isN (pe_ix ix_list (pv 2) (pv 6) (fun _ _ => rfl)) pe_non (nomark _)) (pw_or1 (pt_cmpR op_gt (pv 8) (pe_ix ix_list (pv 2) (pv 6) (fun _ _ => rfl)) (nomark _))))))))
            (pss_cons (ps_asg (pv 8) (pg_sub (pv 2) (pv 6) set_list)) (pss_one (ps_asg (pv 4) (pg_sub (pv 3) (pv 6) set_list)))) pss_nil)))
          pss_nil)))
      (pss_cons (ps_expr (pe_bm PySem.F.plainAttrs_list PySem.F.slot_list_append PySem.F.type_list_append mt_append (pe_fld (pv 0) rfl) (pa_cons (pv 2) pa_nil)))
      (pss_cons (ps_expr (pe_bm PySem.F.plainAttrs_list PySem.F.slot_list_append PySem.F.type_list_append mt_append (pe_fld (pv 0) rfl) (pa_cons (pv 3) pa_nil)))
      (pss_one (ps_ret (pe_cmpR (op_neD hr.units) (pv 2) (pv 1) (nomark _))))))))), ?_⟩
    obtain ⟨a, ha, hat⟩ := I.tab ht
    have hL : LandAt H lnd n ways wl las := L.same s0
    -- old = self.tables[-1]
    refine ⟨_, rfl, p, C, dx, _, _, rfl, I.ob, TP.cl, TP.nT, fP_tables _ _ _ _, 1, rfl, ta, _, -1, _, rfl, rfl, SqL.of I.tl, atI_end (by rw [I.tlen]; exact ha), ?_⟩
    -- new = list(old)
    refine ⟨_, rfl, a, _, rfl, .inl (SqL.of hat), fun q hq => ?_⟩
    have s1 : Same H (upd H q (.lst (tv t))) := Same.new hq
    -- made = [None for place in old]
    refine ⟨_, rfl, a, rfl, ⟨_, s1.seq (SqL.of hat)⟩, fun r hrr => ?_⟩
    have hr0 : H r = none := s1.free hrr
    have nqr : q ≠ r := ne_of_none upd_same hrr
    refine lc_list (K := K) (a := a) (xs := tv t) (fun i H2 => Same H H2 ∧ H2 q = some (.lst (tv t)) ∧ H2 r = some (.lst (mv (List.replicate i none)))) ⟨s1.mut hr0, by rw [upd_ne nqr]; exact upd_same, upd_same⟩ (fun i H2 _ ⟨s2, _⟩ => s2.seq (SqL.of hat)) ?_ ?_
    · rintro i x H2 hi ⟨s2, h2, h3⟩
      have hi' : i < (tv t).length := (List.getElem?_eq_some_iff.mp hi).1
      rw [tv_len] at hi'
      refine ⟨rfl, _, h3, small1000 (by rw [mv_len, List.length_replicate]; omega), s2.mut hr0, by rw [upd_ne nqr]; exact h2, ?_⟩
      rw [upd_same]
      show some (HO.lst (mv (List.replicate i none) ++ mv [none])) = _
      unfold mv
      rw [← List.map_append, ← List.replicate_succ']
    · rintro H2 ⟨s2, h2, h3⟩
      rw [tv_len] at h3
      -- for number, (start, end, change) in enumerate(self.country[1])
      refine ⟨_, rfl, p, C, dx, _, _, rfl, s2 _ _ I.ob, TP.cl, TP.nC, fP_country _ _ _ _, lnd, _, 1, _, rfl, rfl, SqT.of (s2 _ _ hL.tu), atI_nat (j := 1) rfl, wl, _, rfl, SqL.of (s2 _ _ hL.li), ?_⟩
      have hq0 : H q = none := hq
      refine for_enum (K := K) (a := wl) (xs := las.map V.ref) (fun i σ H3 => ∃ (v4 v5 v6 v7 v8 : Option V), σ = [some (.ref p), some (.ref a), some (.ref q), some (.ref r), v4, v5, v6, v7, v8, none] ∧ Same H H3 ∧ i ≤ ways.length ∧
          H3 q = some (.lst (tv (goN S ways t i).1)) ∧ H3 r = some (.lst (mv (goN S ways t i).2)))
        ⟨none, none, none, none, none, rfl, s2, Nat.zero_le _, h2, h3⟩ (fun i σ H3 _ ⟨_, _, _, _, _, _, s3, _⟩ => SqL.of (s3 _ _ hL.li)) ?_ ?_
      · rintro i x σ H3 U hi ⟨v4, v5, v6, v7, v8, rfl, s3, hil, h4, h5⟩ hU
        have hi' : i < las.length := by
          have := (List.getElem?_eq_some_iff.mp hi).1
          simpa using this
        have hi2 : i < ways.length := by rw [← L.len]; exact hi'
        have ew : ways[i]? = some ways[i] := List.getElem?_eq_getElem hi2
        obtain ⟨b, hb1, hb2, hb3⟩ := hL.get ew
        rw [hb2] at hi
        have ex : V.ref b = x := Option.some.inj hi
        subst ex
        generalize ways[i] = v at ew hb3
        have hv := hw v (List.mem_of_getElem? ew)
        have GI := goN_inv (S := S) (ways := ways) (old := t) (by rw [htn]; exact hw) i hil
        have s4 : Same H (upd H3 U (.tup [.int (i : Nat), .ref b])) := s3.trans (Same.new hU)
        have hU4 : (upd H3 U (.tup [.int (i : Nat), .ref b])) U = some (.tup [.int (i : Nat), .ref b]) := upd_same
        have nqU : q ≠ U := ne_of_none h4 hU
        have nrU : r ≠ U := ne_of_none h5 hU
        have h4' : (upd H3 U (.tup [.int (i : Nat), .ref b])) q = some (.lst (tv (goN S ways t i).1)) := by rw [upd_ne nqU]; exact h4
        have h5' : (upd H3 U (.tup [.int (i : Nat), .ref b])) r = some (.lst (mv (goN S ways t i).2)) := by rw [upd_ne nrU]; exact h5
        have eg : goN S ways t (i + 1) = goStep S t (goN S ways t i) i v := by
          show (match ways[i]? with | some w => goStep S t (goN S ways t i) i w | none => goN S ways t i) = _
          rw [ew]
        have e1 : v.1 < t.length := by rw [htn]; exact hv.1
        have e2 : v.2.1 < (goN S ways t i).1.length := by rw [GI.l1, htn]; exact hv.2
        have e3 : v.2.1 < (goN S ways t i).2.length := by rw [GI.l2, htn]; exact hv.2
        generalize upd H3 U (.tup [.int (i : Nat), .ref b]) = H4 at s4 h4' h5' hU4 ⊢
        have sB : H4 b = some (.tup (wv v)) := s4 _ _ hb3
        have sa : H4 a = some (.lst (tv t)) := s4 _ _ hat
        have hrU : H4 U = some (.tup [.int (i : Nat), .ref b]) := hU4
        -- the tuples unpacked; if old[start] is not None
        refine ⟨U, _, rfl, SqT.of hrU, rfl, _, _, rfl, _, _, rfl, b, _, rfl, SqT.of sB, rfl, _, _, rfl, _, _, rfl, _, _, rfl, rfl, rfl, ?_⟩
        refine ⟨_, rfl, _, rfl, a, _, _, _, rfl, rfl, SqL.of sa, atI_nat (tv_at e1), rfl, _, rfl, ?_⟩
        have eg0 : g t v.1 = none → goN S ways t (i + 1) = goN S ways t i := fun hx => by
          rw [eg]
          unfold goStep
          rw [hx]
        have eg1 : ∀ x, g t v.1 = some x → stepF S x v.2.2 = none → goN S ways t (i + 1) = goN S ways t i := fun x hx hb => by
          rw [eg]
          unfold goStep
          rw [hx]
          dsimp only
          rw [hb]
        have eg2 : ∀ x z, g t v.1 = some x → stepF S x v.2.2 = some z → goN S ways t (i + 1) = if upB (g (goN S ways t i).1 v.2.1) z = true then ((goN S ways t i).1.set v.2.1 (some z), (goN S ways t i).2.set v.2.1 (some i)) else goN S ways t i := fun x z hx hb => by
          rw [eg]
          unfold goStep
          rw [hx]
          dsimp only
          rw [hb]
        cases hx : g t v.1 with
        | none =>
          refine iteF ?_
          exact ⟨_, _, _, _, _, rfl, s4, hi2, by rw [eg0 hx]; exact h4', by rw [eg0 hx]; exact h5'⟩
        | some x =>
          refine iteT ?_
          -- behind = stepped(self.bound, old[start], change)
          refine ⟨_, rfl, p, C, dx, _, _, rfl, s4 _ _ I.ob, TP.cl, TP.nB, fP_bound _ _ _ _, _, rfl, _, rfl, a, _, _, _, rfl, rfl, SqL.of sa, atI_nat (tv_at e1), _, rfl, S, x, v.2.2, by rw [hx]; rfl, ?_⟩
          cases hb : stepF S x v.2.2 with
          | none =>
            refine st_no (ans_and0 (ans_notN (val_var rfl) rfl)) ?_
            exact ⟨_, _, _, _, _, rfl, s4, hi2, by rw [eg1 x hx hb]; exact h4', by rw [eg1 x hx hb]; exact h5'⟩
          | some z =>
            have vix : ∀ Q : VK, Q (ov (g (goN S ways t i).1 v.2.1)) H4 → rIxL K (.ref q) (.int (v.2.1 : Int)) H4 Q := fun Q hQ => ⟨q, _, _, _, rfl, rfl, SqL.of h4', atI_nat (tv_at e2), hQ⟩
            by_cases hu : upB (g (goN S ways t i).1 v.2.1) z = true
            · refine st_yes (ans_and (ans_notN (val_var rfl) rfl) ?_) ?_
              · cases hy : g (goN S ways t i).1 v.2.1 with
                | none => exact ans_or1 (ans_isN (val_op (val_var rfl) (val_var rfl) vix) (by rw [hy]; rfl))
                | some y =>
                  rw [hy] at hu
                  refine ans_or (ans_isN (val_op (val_var rfl) (val_var rfl) vix) (by rw [hy]; rfl)) (ans_cmp (val_var rfl) (val_op (val_var rfl) (val_var rfl) vix) fun Q hQ => ⟨z, y, rfl, by rw [hy]; rfl, ?_⟩)
                  have e : decide (y < z) = true := hu
                  show Q (.bl (decide (y < z))) _
                  rw [e]
                  exact hQ
              · refine ⟨_, rfl, _, rfl, _, rfl, q, _, _, v.2.1, rfl, rfl, h4', ixN_nat (by rw [tv_len]; exact e2), ?_⟩
                refine ⟨_, rfl, _, rfl, _, rfl, r, _, _, v.2.1, rfl, rfl, by rw [upd_ne nqr.symm]; exact h5', ixN_nat (by rw [mv_len]; exact e3), ?_⟩
                refine ⟨_, _, _, _, _, rfl, (s4.mut hq0).mut hr0, hi2, ?_, ?_⟩
                · rw [upd_ne nqr, upd_same, eg2 x z hx hb, if_pos hu]
                  exact congrArg (fun l => some (HO.lst l)) (tv_set (o := some z))
                · rw [upd_same, eg2 x z hx hb, if_pos hu]
                  exact congrArg (fun l => some (HO.lst l)) (mv_set (o := some i))
            · refine st_no (ans_and (ans_notN (val_var rfl) rfl) ?_) ?_
              · cases hy : g (goN S ways t i).1 v.2.1 with
                | none => rw [hy] at hu; exact absurd rfl hu
                | some y =>
                  rw [hy] at hu
                  refine ans_or (ans_isN (val_op (val_var rfl) (val_var rfl) vix) (by rw [hy]; rfl)) (ans_cmp (val_var rfl) (val_op (val_var rfl) (val_var rfl) vix) fun Q hQ => ⟨z, y, rfl, by rw [hy]; rfl, ?_⟩)
                  have e : decide (y < z) = false := by
                    have : ¬ decide (y < z) = true := hu
                    simpa using this
                  show Q (.bl (decide (y < z))) _
                  rw [e]
                  exact hQ
              · exact ⟨_, _, _, _, _, rfl, s4, hi2, by rw [eg2 x z hx hb, if_neg hu]; exact h4', by rw [eg2 x z hx hb, if_neg hu]; exact h5'⟩
      · rintro σ H3 ⟨v4, v5, v6, v7, v8, rfl, s3, hil, h4, h5⟩
        rw [List.length_map, L.len] at h4 h5
        have I3 := I.same s3
        have npt : p ≠ ta := ne_of I.ob I.tl (by intro z; cases z)
        have npm : p ≠ ma := ne_of I.ob I.ml (by intro z; cases z)
        have qta : q ≠ ta := fun e => by rw [e, I.tl] at hq0; cases hq0
        have qma : q ≠ ma := fun e => by rw [e, I.ml] at hq0; cases hq0
        have rta : r ≠ ta := fun e => by rw [e, I.tl] at hr0; cases hr0
        have rma : r ≠ ma := fun e => by rw [e, I.ml] at hr0; cases hr0
        have ata : a ≠ ta := (I.dt a (by
          obtain ⟨b, h6, h7⟩ := List.getElem?_map .. ▸ ha |> Option.map_eq_some_iff.mp
          cases h7
          exact List.mem_of_getElem? h6)).1
        have ama : a ≠ ma := (I.dt a (by
          obtain ⟨b, h6, h7⟩ := List.getElem?_map .. ▸ ha |> Option.map_eq_some_iff.mp
          cases h7
          exact List.mem_of_getElem? h6)).2
        -- self.tables.append(new); self.made.append(made)
        refine ⟨_, rfl, p, C, dx, _, _, rfl, I3.ob, TP.cl, TP.nT, fP_tables _ _ _ _, .inl ⟨rfl, _, SqL.of I3.tl⟩, _, rfl, ta, _, _, rfl, rfl, I3.tl, small1000 (by rw [I.tlen]; omega), ?_⟩
        have o1 : (upd H3 ta (.lst (tas.map V.ref ++ [.ref q]))) p = some (.ins C dx (fP (.ref lnd) (.int S) (.ref ta) (.ref ma))) := by rw [upd_ne npt]; exact I3.ob
        have o2 : (upd H3 ta (.lst (tas.map V.ref ++ [.ref q]))) ma = some (.lst (mas.map V.ref)) := by rw [upd_ne I.d.symm]; exact I3.ml
        refine ⟨_, rfl, p, C, dx, _, _, rfl, o1, TP.cl, TP.nM, fP_made _ _ _ _, .inl ⟨rfl, _, SqL.of o2⟩, _, rfl, ma, _, _, rfl, rfl, o2, small1000 (by rw [I.mlen]; omega), ?_⟩
        -- return new != old
        refine ⟨_, rfl, _, rfl, td (goF S ways t).1, td t, dp_td (SqL.of ?_), dp_td (SqL.of ?_), shaped_td _, shaped_td _, ?_⟩
        · rw [upd_ne qma, upd_ne qta]
          exact h4
        · rw [upd_ne ama, upd_ne ata]
          exact s3 _ _ hat
        rw [eqv_td]
        refine k _ (tas ++ [q]) (mas ++ [r]) ((s0.trans s3).mut I.n1 |>.mut I.n2) ⟨by rw [upd_ne npm, upd_ne npt]; exact I3.ob, ?_, ?_, ?_, ?_, I.n0, I.n1, I.n2, I.d, ?_, ?_⟩
        · rw [upd_ne I.d, upd_same]
          simp
        · rw [upd_same]
          simp
        · rw [List.map_append]
          refine RowsAt.snoc (I3.tr.mono fun b hb o e => ?_) ?_
          · rw [upd_ne (I.dt b hb).2, upd_ne (I.dt b hb).1]
            exact e
          · rw [upd_ne qma, upd_ne qta]
            exact h4
        · rw [List.map_append]
          refine RowsAt.snoc (I3.mr.mono fun b hb o e => ?_) ?_
          · rw [upd_ne (I.dm b hb).2, upd_ne (I.dm b hb).1]
            exact e
          · rw [upd_ne rma, upd_ne rta]
            exact h5
        · intro b hb
          rcases List.mem_append.mp hb with h | h
          · exact I.dt b h
          · rw [List.mem_singleton.mp h]
            exact ⟨qta, qma⟩
        · intro b hb
          rcases List.mem_append.mp hb with h | h
          · exact I.dm b h
          · rw [List.mem_singleton.mp h]
            exact ⟨rta, rma⟩
end
end Tr


set_option Elab.async false
set_option linter.all false
set_option maxRecDepth 100000
set_option maxHeartbeats 4000000
/-! class Passes: its making, last, risen, walk_to -/
namespace Tr
open PySem PySem.Spec PyProof.Rows L2
section
variable {P : Program} {w : World} {K : PySem.W.Frag} {mg : Str → Option Value} {base : Heap} {C : Addr}

abbrev sPI : Stmt := inClass (top 18) 0
abbrev nPI : List Str := ["self", "land", "store", "starts", "rose", "place"]
theorem scPI : FnScope nPI ["self", "land", "store", "starts"] (defScope sPI) := ⟨rfl, rfl, rfl, by decide +kernel, rfl, by decide +kernel, by decide +kernel⟩
/-- how the passes end: the last one raised nothing, or there were as many as places -/
def PsEnd (n : Nat) (ts : List Tb) : Prop := 2 ≤ ts.length ∧ ts.length ≤ n + 1 ∧ (ts.length = n + 1 ∨ ts[ts.length - 1]? = ts[ts.length - 2]?)
def spPI (K : PySem.W.Frag) (C : Addr) : Sp := fun vs H Q _ => ∃ (H0 : Hp) (p dx lnd wl st : Addr) (las : List Addr) (n : Nat) (S : Int) (ways : List W3) (starts : Tb),
  vs = [.ref p, .ref lnd, .int S, .ref st] ∧ H p = some (.ins C dx []) ∧ H0 p = none ∧ Same H0 H ∧ LandAt H0 lnd n ways wl las ∧ SqL K H0 st (tv starts) ∧ starts.length = n ∧ WOk n ways ∧ 1 ≤ n ∧ n ≤ 20 ∧
  ∀ H' ts ms dx ta ma tas mas, Same H0 H' → PsAt C H0 H' p lnd S ts ms dx ta ma tas mas → Psd S ways starts ts ms → PsEnd n ts → Q .non H'
theorem cal_PI (T : Blt mg) (TP : TxtP K C) (M1 : MCal P w K mg base C "go" 2 ["self"] (spGo C)) (D : DfnI K mg C "Passes" "Passes.__init__" sPI) : ICal P w K mg base C "Passes" 3 ["self", "land", "store", "starts"] (spPI K C) := by
  obtain ⟨f, fd, F, m, mc⟩ := D
  obtain ⟨f1, fd1, G1, m1, b1⟩ := M1
  refine ⟨f, fd, F.ok scPI (fun vs H Q E h => ?_) (fun cdv A outer s H vs Q E hr h => ?_), m, mc, F.binds fun _ _ _ _ _ _ us hl => match us, hl with | [_, _, _, _], _ => rfl⟩
  · obtain ⟨H0, p, dx, lnd, wl, st, las, n, S, ways, starts, rfl, _⟩ := h
    rfl
  · obtain ⟨H0, p, dx, lnd, wl, st, las, n, S, ways, starts, rfl, hp, hp0, s0, L, hst, hsl, hw, hn1, hn, k⟩ := h
    refine ⟨_, pss_cons (ps_fld (pv 0) (pv 1) rfl)
      (pss_cons (ps_fld (pv 0) (pv 2) rfl)
      (pss_cons (ps_fld (pv 0) (pe_lst (pa_cons (pe_callTy call_list_of (by rfl) T.list (by decide +kernel) (pa_cons (pv 3) pa_nil)) pa_nil)) rfl)
      (pss_cons (ps_fld (pv 0) (pe_lst (pa_cons (pe_lc (own := [("place", 5)]) (g := gName 5) (tt := tYes) rfl scPI.nd (pi_list (pv 3)) (blkOk_by (N := nPI) (sc := defScope sPI) (by decide +kernel))
        (fun _ _ _ _ _ => pg_name (i := 5) scPI.nd rfl (Or.inl rfl)) (fun _ _ _ _ _ => pts_nil) (fun _ _ _ _ _ => pe_non)) pa_nil)) rfl)
      (pss_cons (ps_set (i := 4) scPI.nd rfl (.inl rfl) pe_bl)
      (pss_one (ps_while PassesOwn.never (PW.pt (pw_and (pt_val (pv 4)) (pw_and1 (pt_cmpR op_le (pe_callB call_len_seq (by rfl) T.len PySem.boot_len (pa_cons (pe_fld (pv 0) rfl) pa_nil)) (pe_ix ix_tup (pv 1) pe_int (fun _ _ => rfl)) (nomark _)))))
        (pss_one (ps_set (i := 4) scPI.nd rfl (.inl rfl) (pe_meth0 (pv 0) TP.cl m1 G1 hr b1 .nil pass0))))))))), ?_⟩
    -- self.country = land; self.bound = store
    refine ⟨_, rfl, _, rfl, p, C, dx, _, rfl, hp, TP.cl, TP.nC, (by show 0 < 1000; decide), ?_⟩
    refine ⟨_, rfl, _, rfl, p, C, dx, _, rfl, upd_same, TP.cl, TP.nB, (by show 1 < 1000; decide), ?_⟩
    rw [upd_upd]
    have s2 : Same H0 (upd H p (.ins C dx (putF "bound" (.int S) (putF "country" (.ref lnd) [])))) := s0.mut hp0
    have o2 : (upd H p (.ins C dx (putF "bound" (.int S) (putF "country" (.ref lnd) [])))) p = some (.ins C dx (putF "bound" (.int S) (putF "country" (.ref lnd) []))) := upd_same
    generalize upd H p (.ins C dx (putF "bound" (.int S) (putF "country" (.ref lnd) []))) = H2 at s2 o2 ⊢
    -- self.tables = [list(starts)]
    refine ⟨_, rfl, st, _, rfl, .inl (s2.seq hst), fun t1 ht1 => ⟨(by show 1 ≤ sizeLine; decide), fun ta hta => ?_⟩⟩
    have s3 : Same H0 (upd H2 t1 (.lst (tv starts))) := s2.trans (Same.new ht1)
    have s4 : Same H0 (upd (upd H2 t1 (.lst (tv starts))) ta (.lst [.ref t1])) := s3.trans (Same.new hta)
    have n4 : H0 ta = none := s3.free hta
    have n3 : H0 t1 = none := s2.free ht1
    have t1a : t1 ≠ ta := ne_of_none upd_same hta
    have pt1 : p ≠ t1 := ne_of_none o2 ht1
    have pta : p ≠ ta := ne_of_none (by rw [upd_ne pt1]; exact o2) hta
    have o4 : (upd (upd H2 t1 (.lst (tv starts))) ta (.lst [.ref t1])) p = some (.ins C dx (putF "bound" (.int S) (putF "country" (.ref lnd) []))) := by rw [upd_ne pta, upd_ne pt1]; exact o2
    refine ⟨_, rfl, p, C, dx, _, rfl, o4, TP.cl, TP.nT, (by show 2 < 1000; decide), ?_⟩
    have s5 : Same H0 (upd (upd (upd H2 t1 (.lst (tv starts))) ta (.lst [.ref t1])) p (.ins C dx (putF "tables" (.ref ta) (putF "bound" (.int S) (putF "country" (.ref lnd) []))))) := s4.mut hp0
    have o5 : (upd (upd (upd H2 t1 (.lst (tv starts))) ta (.lst [.ref t1])) p (.ins C dx (putF "tables" (.ref ta) (putF "bound" (.int S) (putF "country" (.ref lnd) []))))) p = some (.ins C dx (putF "tables" (.ref ta) (putF "bound" (.int S) (putF "country" (.ref lnd) [])))) := upd_same
    have a5 : (upd (upd (upd H2 t1 (.lst (tv starts))) ta (.lst [.ref t1])) p (.ins C dx (putF "tables" (.ref ta) (putF "bound" (.int S) (putF "country" (.ref lnd) []))))) ta = some (.lst [.ref t1]) := by rw [upd_ne pta.symm, upd_same]
    have b5 : (upd (upd (upd H2 t1 (.lst (tv starts))) ta (.lst [.ref t1])) p (.ins C dx (putF "tables" (.ref ta) (putF "bound" (.int S) (putF "country" (.ref lnd) []))))) t1 = some (.lst (tv starts)) := by rw [upd_ne pt1.symm, upd_ne t1a, upd_same]
    generalize upd (upd (upd H2 t1 (.lst (tv starts))) ta (.lst [.ref t1])) p (.ins C dx (putF "tables" (.ref ta) (putF "bound" (.int S) (putF "country" (.ref lnd) [])))) = H5 at s5 o5 a5 b5 ⊢
    -- self.made = [[None for place in starts]]
    refine ⟨_, rfl, st, rfl, ⟨_, s5.seq hst⟩, fun m1' hm1 => ?_⟩
    refine lc_list (K := K) (a := st) (xs := tv starts) (fun i H6 => Same H5 H6 ∧ H6 m1' = some (.lst (mv (List.replicate i none)))) ⟨Same.new hm1, upd_same⟩ (fun i H6 _ ⟨s6, _⟩ => (s5.trans s6).seq hst) ?_ ?_
    · rintro i x H6 hi ⟨s6, h6⟩
      have hi' : i < (tv starts).length := (List.getElem?_eq_some_iff.mp hi).1
      rw [tv_len] at hi'
      refine ⟨rfl, _, h6, small1000 (by rw [mv_len, List.length_replicate]; omega), s6.mut hm1, ?_⟩
      rw [upd_same]
      show some (HO.lst (mv (List.replicate i none) ++ mv [none])) = _
      unfold mv
      rw [← List.map_append, ← List.replicate_succ']
    · rintro H6 ⟨s6, h6⟩
      rw [tv_len] at h6
      refine ⟨(by show 1 ≤ sizeLine; decide), fun ma hma => ?_⟩
      have n6 : H0 m1' = none := s5.free hm1
      have n7 : H0 ma = none := (s5.trans s6).free hma
      have s7 : Same H5 (upd H6 ma (.lst [.ref m1'])) := s6.trans (Same.new hma)
      have pma : p ≠ ma := ne_of_none (s6 _ _ o5) hma
      have tma : ta ≠ ma := ne_of_none (s6 _ _ a5) hma
      have t1m : t1 ≠ ma := ne_of_none (s6 _ _ b5) hma
      have m1m : m1' ≠ ma := ne_of_none h6 hma
      have m1t : m1' ≠ ta := (ne_of_none a5 hm1).symm
      have pm1 : p ≠ m1' := ne_of_none o5 hm1
      refine ⟨_, rfl, p, C, dx, _, rfl, s7 _ _ o5, TP.cl, TP.nM, (by show 3 < 1000; decide), ?_⟩
      have s8 : Same H0 (upd (upd H6 ma (.lst [.ref m1'])) p (.ins C dx (fP (.ref lnd) (.int S) (.ref ta) (.ref ma)))) := (s5.trans s7).mut hp0
      have I8 : PsAt C H0 (upd (upd H6 ma (.lst [.ref m1'])) p (.ins C dx (fP (.ref lnd) (.int S) (.ref ta) (.ref ma)))) p lnd S [starts] [List.replicate starts.length none] dx ta ma [t1] [m1'] := by
        refine ⟨upd_same, by rw [upd_ne pta.symm, upd_ne tma]; exact s6 _ _ a5, by rw [upd_ne pma.symm, upd_same]; rfl, ⟨rfl, fun i b vs e1 e2 => ?_⟩, ⟨rfl, fun i b vs e1 e2 => ?_⟩, hp0, n4, n7, tma, fun b hb => ?_, fun b hb => ?_⟩
        · cases i with
          | zero =>
            cases e1
            cases e2
            rw [upd_ne pt1.symm, upd_ne t1m]
            exact s6 _ _ b5
          | succ i => simp at e1
        · cases i with
          | zero =>
            cases e1
            cases e2
            rw [upd_ne pm1.symm, upd_ne m1m]
            exact h6
          | succ i => simp at e1
        · rw [List.mem_singleton.mp hb]
          exact ⟨t1a, t1m⟩
        · rw [List.mem_singleton.mp hb]
          exact ⟨m1t, m1m⟩
      generalize e8 : upd (upd H6 ma (.lst [.ref m1'])) p (.ins C dx (fP (.ref lnd) (.int S) (.ref ta) (.ref ma))) = H8 at s8 I8
      show (tSeq _ _) _ _ (upd (upd H6 ma (.lst [.ref m1'])) p (.ins C dx (fP (.ref lnd) (.int S) (.ref ta) (.ref ma))))
      rw [e8]
      -- rose = True; while rose and len(self.tables) <= land[0]
      refine ⟨fun mm σ H9 => ∃ (b : Bool) (ts : List Tb) (ms : List (List (Option Nat))) (tas mas : List Addr), σ = [some (.ref p), some (.ref lnd), some (.int S), some (.ref st), some (.bl b), none] ∧ Same H0 H9 ∧ PsAt C H0 H9 p lnd S ts ms dx ta ma tas mas ∧ Psd S ways starts ts ms ∧
        1 ≤ ts.length ∧ ts.length ≤ n + 1 ∧ (b = true → ts.length = 1 ∨ 2 ≤ ts.length) ∧ (b = false → 2 ≤ ts.length ∧ ts[ts.length - 1]? = ts[ts.length - 2]?) ∧ mm = n + 1 - ts.length,
        ⟨n, true, [starts], _, _, _, rfl, s8, I8, Psd.zero, Nat.le_refl _, by simp, fun _ => .inl rfl, fun h => (by cases h), by simp⟩, ?_⟩
      rintro mm σ H9 ⟨b, ts, ms, tas, mas, rfl, s9, I9, P9, q1, q2, q3, q4, rfl⟩
      cases b with
      | false =>
        refine ⟨_, rfl, _, rfl, ?_⟩
        refine iteF ?_
        refine iteF ?_
        obtain ⟨q5, q6⟩ := q4 rfl
        exact k H9 ts ms dx ta ma tas mas s9 I9 P9 ⟨q5, q2, .inr q6⟩
      | true =>
        refine ⟨_, rfl, _, rfl, ?_⟩
        refine iteT ?_
        have L9 := L.same s9
        refine ⟨_, rfl, p, C, dx, _, _, rfl, I9.ob, TP.cl, TP.nT, fP_tables _ _ _ _, ta, _, rfl, .inl (SqL.of I9.tl), _, rfl, lnd, _, 0, _, rfl, rfl, SqT.of L9.tu, atI_nat (j := 0) rfl, _, _, rfl, rfl, _, rfl, ?_⟩
        rw [I9.tlen]
        by_cases hle : (ts.length : Int) ≤ (n : Int)
        · refine iteY hle ?_
          have hts : ts[ts.length - 1]? = some ts[ts.length - 1] := List.getElem?_eq_getElem (by omega)
          have htl := P9.length (by rw [hsl]; exact hw) _ _ hts
          refine ⟨_, fun σ' H' h => h, _, rfl, p, dx, _, rfl, I9.ob, fP_no _ _ _ _ _, H0, p, lnd, wl, las, n, S, ways, ts, ms, _, dx, ta, ma, tas, mas, rfl, s9, L, I9, hts, by rw [htl, hsl], hw, by omega, by omega, P9.len, fun H' tas' mas' s' I' => ?_⟩
          refine ⟨n + 1 - (ts.length + 1), by omega, _, _, _, tas', mas', rfl, s', I', P9.snoc hts, by simp, by simp; omega, fun _ => .inr (by simp; omega), fun hb => ⟨by simp; omega, ?_⟩, by simp⟩
          have hb : (goF S ways ts[ts.length - 1]).1 = ts[ts.length - 1] := by simpa using hb
          rw [hb, List.length_append]
          show (ts ++ [ts[ts.length - 1]])[ts.length + 1 - 1]? = (ts ++ [ts[ts.length - 1]])[ts.length + 1 - 2]?
          rw [List.getElem?_append_right (by omega), List.getElem?_append_left (by omega), show ts.length + 1 - 2 = ts.length - 1 from by omega, hts, show ts.length + 1 - 1 - ts.length = 0 from by omega]
          rfl
        · refine iteN hle ?_
          exact k H9 ts ms dx ta ma tas mas s9 I9 P9 ⟨by omega, q2, .inl (by omega)⟩

abbrev sLast : Stmt := inClass (top 18) 2
theorem scLast : FnScope ["self"] ["self"] (defScope sLast) := ⟨rfl, rfl, rfl, by decide +kernel, rfl, by decide +kernel, by decide +kernel⟩
def spLast (C : Addr) : Sp := fun vs H Q _ => ∃ (H0 : Hp) (p lnd : Addr) (S : Int) (ts : List Tb) (ms : List (List (Option Nat))) (t : Tb) (dx ta ma : Addr) (tas mas : List Addr),
  vs = [.ref p] ∧ PsAt C H0 H p lnd S ts ms dx ta ma tas mas ∧ ts[ts.length - 1]? = some t ∧ ∀ q, H q = none → Q (.ref q) (upd H q (.lst (tv t)))
theorem cal_last (T : Blt mg) (TP : TxtP K C) (D : DfnM K C "last" "Passes.last" sLast) : MCal P w K mg base C "last" 1 ["self"] (spLast C) := by
  obtain ⟨f, fd, F, m⟩ := D
  refine ⟨f, fd, F.ok scLast (fun vs H Q E h => ?_) (fun cdv A outer s H vs Q E hr h => ?_), m, F.binds fun _ _ _ _ _ _ us hl => match us, hl with | [_], _ => rfl⟩
  · obtain ⟨H0, p, lnd, S, ts, ms, t, dx, ta, ma, tas, mas, rfl, _⟩ := h
    rfl
  · obtain ⟨H0, p, lnd, S, ts, ms, t, dx, ta, ma, tas, mas, rfl, I, ht, k⟩ := h
    refine ⟨_, pss_one (ps_ret (pe_callTy call_list_of (by rfl) T.list (by decide +kernel) (pa_cons (pe_ix ix_list (pe_fld (pv 0) rfl) (pe_un un_neg pe_int) (fun _ _ => rfl)) pa_nil))), ?_⟩
    obtain ⟨a, ha, hat⟩ := I.tab ht
    refine ⟨_, rfl, p, C, dx, _, _, rfl, I.ob, TP.cl, TP.nT, fP_tables _ _ _ _, 1, rfl, ta, _, -1, _, rfl, rfl, SqL.of I.tl, atI_end (by rw [I.tlen]; exact ha), ?_⟩
    exact ⟨a, _, rfl, .inl (SqL.of hat), k⟩

abbrev sRisen : Stmt := inClass (top 18) 3
theorem scRisen : FnScope ["self", "place"] ["self"] (defScope sRisen) := ⟨rfl, rfl, rfl, by decide +kernel, rfl, by decide +kernel, by decide +kernel⟩
def isMade (m : List (Option Nat)) (p : Nat) : Bool := match m[p]? with
  | some (some _) => true
  | _ => false
def spRisen (C : Addr) : Sp := fun vs H Q _ => ∃ (H0 : Hp) (p lnd wl : Addr) (las : List Addr) (n : Nat) (ways : List W3) (S : Int) (ts : List Tb) (ms : List (List (Option Nat))) (m : List (Option Nat)) (dx ta ma : Addr) (tas mas : List Addr),
  vs = [.ref p] ∧ Same H0 H ∧ LandAt H0 lnd n ways wl las ∧ PsAt C H0 H p lnd S ts ms dx ta ma tas mas ∧ ms[ms.length - 1]? = some m ∧ m.length = n ∧ n ≤ 100 ∧ (∃ q j, q < n ∧ m[q]? = some (some j)) ∧
  ∀ H' (q j : Nat), Same H H' → q < n → m[q]? = some (some j) → Q (.int (q : Int)) H'
theorem cal_risen (T : Blt mg) (TP : TxtP K C) (D : DfnM K C "risen" "Passes.risen" sRisen) : MCal P w K mg base C "risen" 1 ["self"] (spRisen C) := by
  obtain ⟨f, fd, F, mm⟩ := D
  refine ⟨f, fd, F.ok scRisen (fun vs H Q E h => ?_) (fun cdv A outer s H vs Q E hr h => ?_), mm, F.binds fun _ _ _ _ _ _ us hl => match us, hl with | [_], _ => rfl⟩
  · obtain ⟨H0, p, lnd, wl, las, n, ways, S, ts, ms, m, dx, ta, ma, tas, mas, rfl, _⟩ := h
    rfl
  · obtain ⟨H0, p, lnd, wl, las, n, ways, S, ts, ms, m, dx, ta, ma, tas, mas, rfl, s0, L, I, hm, hml, hn, hex, k⟩ := h
    refine ⟨_, pss_one (ps_ret (pe_ix ix_list (pe_lc (own := [("place", 1)]) (g := gName 1) (tt := tTest (tOp rNotN (tOp (rIxL K) (tOp (rIxL K) (tFld K (tVar 0) "made") (tUn (rU fun i => .int (-i)) (tC (.int 1)))) (tVar 1)) (tC .non))) (te := tVar 1) rfl scRisen.nd (pi_range1 (by rfl) T.range (pa_cons (pe_ix ix_tup (pe_fld (pv 0) rfl) pe_int (fun _ _ => rfl)) pa_nil))
        (blkOk_by (N := ["self", "place"]) (sc := defScope sRisen) (by decide +kernel))
        (fun _ _ _ _ _ => pg_name (i := 1) scRisen.nd rfl (Or.inl rfl)) (fun _ _ _ _ _ => pts_one (pt_cmpR op_notN1 (pe_ix ix_list (pe_ix ix_list (pe_fld (pv 0) rfl) (pe_un un_neg pe_int) (fun _ _ => rfl)) (pv 1) (fun _ _ => rfl)) pe_non (nomark _))) (fun _ _ _ _ _ => pv 1)) pe_int (fun _ _ => rfl))), ?_⟩
    obtain ⟨a, ha, hat⟩ := I.mad hm
    have hL := L.same s0
    refine ⟨_, rfl, p, C, dx, _, _, rfl, I.ob, TP.cl, TP.nC, fP_country _ _ _ _, lnd, _, 0, _, rfl, rfl, SqT.of hL.tu, atI_nat (j := 0) rfl, n, rfl, by omega, by omega, fun D hD => ?_⟩
    refine lc_range (lo := 0) (n := ((n : Int)).toNat) (fun i H2 => Same H H2 ∧ H2 D = some (.lst (((List.range i).filter (isMade m)).map fun q : Nat => V.int (q : Int)))) ⟨Same.new hD, upd_same⟩ ?_ ?_
    · rintro i H2 hi ⟨s2, h2⟩
      have hi : i < n := by omega
      have e : m[i]? = some m[i] := List.getElem?_eq_getElem (by omega)
      have ev : (mv m)[i]? = some (Tr.on m[i]) := by
        unfold mv
        rw [List.getElem?_map, e]
        rfl
      refine ⟨rfl, _, rfl, p, C, dx, _, _, rfl, s2 _ _ I.ob, TP.cl, TP.nM, fP_made _ _ _ _, 1, rfl, ma, _, -1, _, rfl, rfl, SqL.of (s2 _ _ I.ml), atI_end (by rw [I.mlen]; exact ha), ?_⟩
      refine ⟨_, rfl, a, _, _, _, rfl, rfl, SqL.of (s2 _ _ hat), at_of (j := i) (by omega) ev, rfl, _, rfl, ?_⟩
      rw [List.range_succ, List.filter_append, List.map_append]
      cases q : m[i] with
      | none =>
        have hb : isMade m i = false := by unfold isMade; rw [e, q]
        refine iteF ⟨s2, ?_⟩
        rw [h2]
        simp [hb]
      | some j =>
        have hb : isMade m i = true := by unfold isMade; rw [e, q]
        refine iteT ⟨_, rfl, _, h2, small1000 ?_, s2.mut hD, ?_⟩
        · rw [List.length_map]
          have := List.length_filter_le (isMade m) (List.range i)
          rw [List.length_range] at this
          omega
        · rw [upd_same]
          simp [hb]
    · rintro H2 ⟨s2, h2⟩
      have e : ((n : Int)).toNat = n := by omega
      rw [e] at h2
      have hne : ∃ q r, (List.range n).filter (isMade m) = q :: r := by
        obtain ⟨q, j, hq, hj⟩ := hex
        have hmem : q ∈ (List.range n).filter (isMade m) := List.mem_filter.mpr ⟨List.mem_range.mpr hq, by unfold isMade; rw [hj]⟩
        cases h : (List.range n).filter (isMade m) with
        | nil => rw [h] at hmem; simp at hmem
        | cons q r => exact ⟨q, r, rfl⟩
      obtain ⟨q, r, hqr⟩ := hne
      have hq : q ∈ (List.range n).filter (isMade m) := by rw [hqr]; exact List.mem_cons_self ..
      obtain ⟨h3, h4⟩ := List.mem_filter.mp hq
      have hj : ∃ j, m[q]? = some (some j) := by
        unfold isMade at h4
        split at h4
        · exact ⟨_, by assumption⟩
        · cases h4
      obtain ⟨j, hj⟩ := hj
      rw [hqr] at h2
      refine ⟨D, _, 0, _, rfl, rfl, SqL.of h2, atI_nat (j := 0) rfl, ?_⟩
      exact k H2 q j s2 (List.mem_range.mp h3) hj

abbrev sWalk : Stmt := inClass (top 18) 4
abbrev nWalk : List Str := ["self", "place", "ways", "made"]
theorem scWalk : FnScope nWalk ["self", "place"] (defScope sWalk) := ⟨rfl, rfl, rfl, by decide +kernel, rfl, by decide +kernel, by decide +kernel⟩
def iv (ws : List Nat) : List V := ws.map fun q : Nat => V.int (q : Int)
def spWalk (C : Addr) : Sp := fun vs H Q _ => ∃ (H0 : Hp) (p lnd wl : Addr) (las : List Addr) (n : Nat) (ways : List W3) (S : Int) (starts : Tb) (ts : List Tb) (ms : List (List (Option Nat))) (place : Nat) (dx ta ma : Addr) (tas mas : List Addr),
  vs = [.ref p, .int (place : Int)] ∧ Same H0 H ∧ LandAt H0 lnd n ways wl las ∧ PsAt C H0 H p lnd S ts ms dx ta ma tas mas ∧ Psd S ways starts ts ms ∧ starts.length = n ∧ WOk n ways ∧ ts.length ≤ 100 ∧ place < n ∧
  (2 ≤ ts.length → ∃ m j, ms[ts.length - 1]? = some m ∧ m[place]? = some (some j)) ∧
  ∀ H' (tp wa : Addr) (q : Nat) (ws : List Nat), Same H H' → H' tp = some (.tup [.int (q : Int), .ref wa]) → H' wa = some (.lst (iv ws)) → q < n → Path S ways ts 0 q ws → ws.length + 1 = ts.length → Q (.ref tp) H'
theorem cal_walk (T : Blt mg) (TP : TxtP K C) (D : DfnM K C "walk_to" "Passes.walk_to" sWalk) : MCal P w K mg base C "walk_to" 1 ["self", "place"] (spWalk C) := by
  obtain ⟨f, fd, F, mm⟩ := D
  refine ⟨f, fd, F.ok scWalk (fun vs H Q E h => ?_) (fun cdv A outer s H vs Q E hr h => ?_), mm, F.binds fun _ _ _ _ _ _ us hl => match us, hl with | [_, _], _ => rfl⟩
  · obtain ⟨H0, p, lnd, wl, las, n, ways, S, starts, ts, ms, place, dx, ta, ma, tas, mas, rfl, _⟩ := h
    rfl
  · obtain ⟨H0, p, lnd, wl, las, n, ways, S, starts, ts, ms, place, dx, ta, ma, tas, mas, rfl, s0, L, I, PP, hsl, hw, htl, hpl, hri, k⟩ := h
    refine ⟨_, pss_cons (ps_set (i := 2) scWalk.nd rfl (.inl rfl) (pe_lst pa_nil))
      (pss_cons (ps_for PassesOwn.never rfl (pi_list (pe_revL (pe_fld (pv 0) rfl))) (pg_name (i := 3) scWalk.nd rfl (Or.inl rfl))
        (pss_one (ps_if (pt_cmpR op_notN (pe_ix ix_list (pv 3) (pv 1) (fun _ _ => rfl)) pe_non (nomark _))
          (pss_cons (ps_expr (pe_bm PySem.F.plainAttrs_list PySem.F.slot_list_append PySem.F.type_list_append mt_append (pv 2) (pa_cons (pe_ix ix_list (pv 3) (pv 1) (fun _ _ => rfl)) pa_nil)))
          (pss_one (ps_set (i := 1) scWalk.nd rfl (.inl rfl) (pe_ix ix_tup (pe_ix ix_list (pe_ix ix_tup (pe_fld (pv 0) rfl) pe_int (fun _ _ => rfl)) (pe_ix ix_list (pv 3) (pv 1) (fun _ _ => rfl)) (fun _ _ => rfl)) pe_int (fun _ _ => rfl)))))
          pss_nil)))
      (pss_one (ps_ret (pe_tup (pa_cons (pv 1) (pa_cons (pe_revL (pv 2)) pa_nil)))))), ?_⟩
    have hL := L.same s0
    have h1 : 1 ≤ ts.length := (List.getElem?_eq_some_iff.mp PP.t0).1
    have hlen := PP.len
    subst hsl
    refine ⟨by show 0 ≤ sizeLine; decide, fun b hb => ?_⟩
    refine ⟨_, rfl, p, C, dx, _, _, rfl, (Same.new hb) _ _ I.ob, TP.cl, TP.nM, fP_made _ _ _ _, ma, _, rfl, SqL.of ((Same.new hb) _ _ I.ml), fun r hr2 => ?_⟩
    have hb0 : H b = none := hb
    have s2 : Same H (upd (upd H b (.lst [])) r (.lst (mas.map V.ref).reverse)) := (Same.new hb).trans (Same.new hr2)
    have nbr : b ≠ r := ne_of_none upd_same hr2
    have nr0 : H r = none := (Same.new hb).free hr2
    refine ⟨r, rfl, ⟨_, SqL.of upd_same⟩, for_list (K := K) (a := r) (xs := (mas.map V.ref).reverse) (fun i σ H2 => ∃ (q : Nat) (acc : List Nat) (v : Option V), σ = [some (.ref p), some (.int (q : Int)), some (.ref b), v] ∧ Same H H2 ∧ H2 r = some (.lst (mas.map V.ref).reverse) ∧
        H2 b = some (.lst (iv acc)) ∧ WkInv S ways ts ms starts.length i q acc)
      ⟨place, [], none, rfl, s2, upd_same, by rw [upd_ne nbr, upd_same]; rfl, WkInv.zero h1 hpl hri⟩ (fun i σ H2 _ ⟨_, _, _, _, _, h, _⟩ => SqL.of h) ?_ ?_⟩
    · rintro i x σ H2 hi ⟨q, acc, v, rfl, s3, h3, h4, W⟩
      have hi' : i < mas.length := by
        have := (List.getElem?_eq_some_iff.mp hi).1
        simpa using this
      have hml := I.mlen
      rw [List.length_map] at hml
      obtain ⟨m, em⟩ : ∃ m, ms.reverse[i]? = some m := ⟨_, List.getElem?_eq_getElem (by rw [List.length_reverse]; omega)⟩
      have em2 : ms[ms.length - 1 - i]? = some m := by rw [← em, List.getElem?_reverse (by omega)]
      obtain ⟨a, ha, hat⟩ := I.mad em2
      have ex : x = V.ref a := by
        rw [List.getElem?_reverse (by rw [List.length_map]; exact hi'), I.mlen] at hi
        rw [hi] at ha
        exact Option.some.inj ha
      subst ex
      obtain ⟨o, ho, w0, w1⟩ := W.turn PP hw em
      have sa := s3 _ _ hat
      have ev : (mv m)[q]? = some (Tr.on o) := by
        unfold mv
        rw [List.getElem?_map, ho]
        rfl
      refine ⟨_, rfl, _, rfl, a, _, _, _, rfl, rfl, SqL.of sa, atI_nat ev, rfl, _, rfl, ?_⟩
      have hacc : acc.length ≤ 100 := by
        obtain ⟨kk, e1, _⟩ := W.st
        omega
      cases o with
      | none =>
        refine iteF ?_
        exact ⟨q, acc, _, rfl, s3, h3, h4, w0 rfl⟩
      | some j =>
        obtain ⟨v3, hv, W'⟩ := w1 j rfl
        refine iteT ?_
        have nba : a ≠ b := ne_of_none hat hb0
        refine ⟨_, rfl, .inl ⟨rfl, _, SqL.of h4⟩, _, rfl, _, rfl, a, _, _, _, rfl, rfl, SqL.of sa, atI_nat ev, b, _, _, rfl, rfl, h4, small1000 (by unfold iv; rw [List.length_map]; omega), ?_⟩
        have s4 : Same H (upd H2 b (.lst (iv acc ++ [Tr.on (some j)]))) := s3.mut hb0
        obtain ⟨la, hl1, hl2, hl3⟩ := hL.get hv
        refine ⟨_, rfl, p, C, dx, _, _, rfl, s4 _ _ I.ob, TP.cl, TP.nC, fP_country _ _ _ _, lnd, _, 1, _, rfl, rfl, SqT.of (s4 _ _ hL.tu), atI_nat (j := 1) rfl, _, rfl, _, rfl, a, _, _, _, rfl, rfl, SqL.of (s4 _ _ hat), atI_nat ev,
          wl, _, _, _, rfl, rfl, SqL.of (s4 _ _ hL.li), atI_nat hl2, la, _, 0, _, rfl, rfl, SqT.of (s4 _ _ hl3), atI_nat (j := 0) rfl, ?_⟩
        refine ⟨v3.1, acc ++ [j], _, rfl, s4, by rw [upd_ne nbr.symm]; exact h3, ?_, W'⟩
        rw [upd_same]
        unfold iv
        rw [List.map_append]
        rfl
    · rintro σ H2 ⟨q, acc, v, rfl, s3, h3, h4, W⟩
      have el : (mas.map V.ref).reverse.length = ts.length := by rw [List.length_reverse, I.mlen, hlen]
      rw [el] at W
      obtain ⟨hq, kk, e1, _, e2, e3, _⟩ := W
      have hk := e2 (Nat.le_refl _)
      subst hk
      refine ⟨_, rfl, _, rfl, b, _, rfl, SqL.of h4, fun wa hwa => ⟨(by show 2 ≤ sizeLine; decide), fun tp htp => ?_⟩⟩
      have nwt : wa ≠ tp := ne_of_none upd_same htp
      refine k _ tp wa q acc.reverse ((s3.trans (Same.new hwa)).trans (Same.new htp)) upd_same ?_ hq e3 (by rw [List.length_reverse]; omega)
      rw [upd_ne nwt, upd_same]
      unfold iv
      rw [List.map_reverse]
end
end Tr


set_option Elab.async false
set_option linter.all false
set_option maxRecDepth 100000
set_option maxHeartbeats 4000000
/-! what Heights leans on -/
namespace Tr
open PySem PySem.Spec PyProof.Rows L2
theorem le1000 {n : Nat} (h : n ≤ 1000) : n ≤ sizeLine := Nat.le_trans h (by decide)
theorem iv_len (ws : List Nat) : (iv ws).length = ws.length := by simp [iv]
theorem iv_at {ws : List Nat} {i q : Nat} (h : ws[i]? = some q) : (iv ws)[i]? = some (V.int (q : Int)) := by
  unfold iv
  rw [List.getElem?_map, h]
  rfl
theorem iv_tv (ws : List Nat) : iv ws = tv (ws.map fun q : Nat => some (q : Int)) := by
  unfold iv tv
  rw [List.map_map]
  rfl
theorem cut_to {ws : List Nat} {i : Nat} (h : i ≤ ws.length) : cutV (iv ws) none (some (i : Int)) = iv (ws.take i) := by
  unfold cutV
  rw [HT.sIx_none, HT.sIx_nat, iv_len, Nat.min_eq_left h]
  unfold iv
  simp
theorem cut_in {ws : List Nat} {i j : Nat} (h : i ≤ j) (hj : j ≤ ws.length) : cutV (iv ws) (some (i : Int)) (some (j : Int)) = iv ((ws.drop i).take (j - i)) := by
  unfold cutV
  rw [HT.sIx_nat, HT.sIx_nat, iv_len, Nat.min_eq_left hj, Nat.min_eq_left (Nat.le_trans h hj)]
  unfold iv
  rw [List.map_take, List.map_drop]
section
variable {P : Program} {w : World} {K : PySem.W.Frag} {mg : Str → Option Value} {base : Heap}

abbrev sChanges : Stmt := top 19
theorem scChanges : FnScope ["land", "ways", "number"] ["land", "ways"] (defScope sChanges) := ⟨rfl, rfl, rfl, by decide +kernel, rfl, by decide +kernel, by decide +kernel⟩
def spChanges (K : PySem.W.Frag) : Sp := fun vs H Q _ => ∃ (l a wl : Addr) (las : List Addr) (n : Nat) (ways : List W3) (ws : List Nat), vs = [.ref l, .ref a] ∧ LandAt H l n ways wl las ∧ SqL K H a (iv ws) ∧ (∀ q ∈ ws, q < ways.length) ∧ ws.length ≤ 100 ∧
  ∀ H' p, H p = none → Same H H' → H' p = some (.lst ((csA ways ws).map V.int)) → Q (.ref p) H'
theorem cal_changes (D : Dfn K mg "changes_of" sChanges) : Cal P w K mg base "changes_of" 1 ["land", "ways"] (spChanges K) := by
  obtain ⟨f, fd, F, m⟩ := D
  refine ⟨f, fd, F.ok scChanges (fun vs H Q E h => ?_) (fun cdv A outer s H vs Q E hr h => ?_), m, F.kp, F.binds fun _ _ _ _ _ _ us hl => match us, hl with | [_, _], _ => rfl⟩
  · obtain ⟨l, a, wl, las, n, ways, ws, rfl, _⟩ := h
    rfl
  · obtain ⟨l, a, wl, las, n, ways, ws, rfl, L, ha, hws, hlen, k⟩ := h
    refine ⟨_, pss_one (ps_ret (pe_lc (own := [("number", 2)]) (g := gName 2) (tt := tYes) (te := tOp (rIxT K) (tOp (rIxL K) (tOp (rIxT K) (tVar 0) (tC (.int 1))) (tVar 2)) (tC (.int 2))) rfl scChanges.nd (pi_list (pv 1)) (blkOk_by (N := ["land", "ways", "number"]) (sc := defScope sChanges) (by decide +kernel))
        (fun _ _ _ _ _ => pg_name (i := 2) scChanges.nd rfl (Or.inl rfl)) (fun _ _ _ _ _ => pts_nil) (fun _ _ _ _ _ => pe_ix ix_tup (pe_ix ix_list (pe_ix ix_tup (pv 0) pe_int (fun _ _ => rfl)) (pv 2) (fun _ _ => rfl)) pe_int (fun _ _ => rfl)))), ?_⟩
    refine ⟨_, rfl, a, rfl, ⟨_, ha⟩, fun D hD => ?_⟩
    refine lc_list (K := K) (a := a) (xs := iv ws) (fun i H2 => Same H H2 ∧ H2 D = some (.lst ((csA ways (ws.take i)).map V.int))) ⟨Same.new hD, upd_same⟩ (fun i H2 _ ⟨s2, _⟩ => s2.seq ha) ?_ ?_
    · rintro i x H2 hi ⟨s2, h2⟩
      have hi' : i < ws.length := by rw [← iv_len]; exact (List.getElem?_eq_some_iff.mp hi).1
      obtain ⟨q, hq⟩ : ∃ q, ws[i]? = some q := ⟨_, List.getElem?_eq_getElem hi'⟩
      rw [iv_at hq] at hi
      cases hi
      have hqw := hws q (List.mem_of_getElem? hq)
      obtain ⟨v, hv⟩ : ∃ v, ways[q]? = some v := ⟨_, List.getElem?_eq_getElem hqw⟩
      obtain ⟨b, hb1, hb2, hb3⟩ := L.get hv
      refine ⟨rfl, _, rfl, l, _, 1, _, rfl, rfl, SqT.of (s2 _ _ L.tu), atI_nat (j := 1) rfl, _, rfl, wl, _, _, _, rfl, rfl, SqL.of (s2 _ _ L.li), atI_nat hb2, b, _, 2, _, rfl, rfl, SqT.of (s2 _ _ hb3), atI_nat (j := 2) rfl, ?_⟩
      refine ⟨_, h2, small1000 (by unfold csA; rw [List.length_map, List.length_map, List.length_take]; omega), s2.mut hD, ?_⟩
      rw [upd_same]
      have e : ws.take (i + 1) = ws.take i ++ [q] := by rw [List.take_add_one, hq]; rfl
      rw [e]
      unfold csA
      simp [chgOf, hv]
    · rintro H2 ⟨s2, h2⟩
      rw [iv_len, List.take_length] at h2
      exact k H2 D hD s2 h2

abbrev sPlaces : Stmt := top 20
theorem scPlaces : FnScope ["land", "place", "ways", "number"] ["land", "place", "ways"] (defScope sPlaces) := ⟨rfl, rfl, rfl, by decide +kernel, rfl, by decide +kernel, by decide +kernel⟩
def spPlaces (K : PySem.W.Frag) : Sp := fun vs H Q _ => ∃ (l a wl : Addr) (las : List Addr) (n pl : Nat) (ways : List W3) (ws : List Nat), vs = [.ref l, .int (pl : Int), .ref a] ∧ LandAt H l n ways wl las ∧ SqL K H a (iv ws) ∧ (∀ q ∈ ws, q < ways.length) ∧ ws.length ≤ 100 ∧
  ∀ H' p, H p = none → Same H H' → H' p = some (.lst (iv (plA ways pl ws))) → Q (.ref p) H'
theorem cal_places (D : Dfn K mg "places_along" sPlaces) : Cal P w K mg base "places_along" 1 ["land", "place", "ways"] (spPlaces K) := by
  obtain ⟨f, fd, F, m⟩ := D
  refine ⟨f, fd, F.ok scPlaces (fun vs H Q E h => ?_) (fun cdv A outer s H vs Q E hr h => ?_), m, F.kp, F.binds fun _ _ _ _ _ _ us hl => match us, hl with | [_, _, _], _ => rfl⟩
  · obtain ⟨l, a, wl, las, n, pl, ways, ws, rfl, _⟩ := h
    rfl
  · obtain ⟨l, a, wl, las, n, pl, ways, ws, rfl, L, ha, hws, hlen, k⟩ := h
    refine ⟨_, pss_one (ps_ret (pe_op op_cat (pe_lst (pa_cons (pv 1) pa_nil)) (pe_lc (own := [("number", 3)]) (g := gName 3) (tt := tYes) (te := tOp (rIxT K) (tOp (rIxL K) (tOp (rIxT K) (tVar 0) (tC (.int 1))) (tVar 3)) (tC (.int 1))) rfl scPlaces.nd (pi_list (pv 2)) (blkOk_by (N := ["land", "place", "ways", "number"]) (sc := defScope sPlaces) (by decide +kernel))
        (fun _ _ _ _ _ => pg_name (i := 3) scPlaces.nd rfl (Or.inl rfl)) (fun _ _ _ _ _ => pts_nil) (fun _ _ _ _ _ => pe_ix ix_tup (pe_ix ix_list (pe_ix ix_tup (pv 0) pe_int (fun _ _ => rfl)) (pv 3) (fun _ _ => rfl)) pe_int (fun _ _ => rfl))))), ?_⟩
    refine ⟨_, rfl, by show 1 ≤ sizeLine; decide, fun p0 hp0 => ?_⟩
    have s0 : Same H (upd H p0 (.lst [.int (pl : Int)])) := Same.new hp0
    refine ⟨_, rfl, a, rfl, ⟨_, s0.seq ha⟩, fun D hD => ?_⟩
    have hD0 := s0.free hD
    refine lc_list (K := K) (a := a) (xs := iv ws) (fun i H2 => Same H H2 ∧ H2 p0 = some (.lst [.int (pl : Int)]) ∧ H2 D = some (.lst (iv ((ws.take i).map (endOf ways))))) ⟨s0.trans (Same.new hD), by rw [upd_ne (ne_of_none upd_same hD), upd_same], upd_same⟩ (fun i H2 _ ⟨s2, _⟩ => s2.seq ha) ?_ ?_
    · rintro i x H2 hi ⟨s2, h0, h2⟩
      have hi' : i < ws.length := by rw [← iv_len]; exact (List.getElem?_eq_some_iff.mp hi).1
      obtain ⟨q, hq⟩ : ∃ q, ws[i]? = some q := ⟨_, List.getElem?_eq_getElem hi'⟩
      rw [iv_at hq] at hi
      cases hi
      have hqw := hws q (List.mem_of_getElem? hq)
      obtain ⟨v, hv⟩ : ∃ v, ways[q]? = some v := ⟨_, List.getElem?_eq_getElem hqw⟩
      obtain ⟨b, hb1, hb2, hb3⟩ := L.get hv
      refine ⟨rfl, _, rfl, l, _, 1, _, rfl, rfl, SqT.of (s2 _ _ L.tu), atI_nat (j := 1) rfl, _, rfl, wl, _, _, _, rfl, rfl, SqL.of (s2 _ _ L.li), atI_nat hb2, b, _, 1, _, rfl, rfl, SqT.of (s2 _ _ hb3), atI_nat (j := 1) rfl, ?_⟩
      refine ⟨_, h2, small1000 (by rw [iv_len, List.length_map, List.length_take]; omega), s2.mut hD0, by rw [upd_ne (ne_of_none upd_same hD)]; exact h0, ?_⟩
      rw [upd_same]
      have e : ws.take (i + 1) = ws.take i ++ [q] := by rw [List.take_add_one, hq]; rfl
      rw [e]
      unfold iv
      simp [endOf, hv]
    · rintro H2 ⟨s2, h0, h2⟩
      rw [iv_len, List.take_length] at h2
      refine ⟨p0, D, _, _, rfl, rfl, h0, h2, le1000 (by rw [iv_len, List.length_map]; simp; omega), fun p hp => ?_⟩
      exact k _ p (s2.free hp) (s2.trans (Same.new hp)) upd_same

abbrev sTwice : Stmt := top 21
abbrev nTwice : List Str := ["places", "seen", "at", "place"]
theorem scTwice : FnScope nTwice ["places"] (defScope sTwice) := ⟨rfl, rfl, rfl, by decide +kernel, rfl, by decide +kernel, by decide +kernel⟩
def spTwice (K : PySem.W.Frag) : Sp := fun vs H Q _ => ∃ (a : Addr) (ps : List Nat), vs = [.ref a] ∧ SqL K H a (iv ps) ∧ ps.length ≤ 100 ∧ ¬ ps.Nodup ∧
  ∀ H' p i j r, Same H H' → H' p = some (.tup [.int ((i : Nat) : Int), .int ((j : Nat) : Int)]) → i < j → ps[i]? = some r → ps[j]? = some r → Q (.ref p) H'
theorem cal_twice (T : Blt mg) (D : Dfn K mg "twice" sTwice) : Cal P w K mg base "twice" 1 ["places"] (spTwice K) := by
  obtain ⟨f, fd, F, m⟩ := D
  refine ⟨f, fd, F.ok scTwice (fun vs H Q E h => ?_) (fun cdv A outer s H vs Q E hr h => ?_), m, F.kp, F.binds fun _ _ _ _ _ _ us hl => match us, hl with | [_], _ => rfl⟩
  · obtain ⟨a, ps, rfl, _⟩ := h
    rfl
  · obtain ⟨a, ps, rfl, ha, hlen, hnd, k⟩ := h
    have hu := hu_of hr
    refine ⟨_, pss_cons (ps_set (i := 1) scTwice.nd rfl (.inl rfl) pe_dnewK)
      (pss_cons (ps_for PassesOwn.never rfl (pi_enum (by rfl) T.enumerate (pa_cons (pv 0) pa_nil)) (pg_tup rfl (pgs_cons (pg_name (i := 2) scTwice.nd rfl (Or.inl rfl)) (pgs_cons (pg_name (i := 3) scTwice.nd rfl (Or.inl rfl)) pgs_nil)))
        (pss_cons (ps_if (pt_cmp (pc_din hu (pv 3) (pv 1))) (pss_one (ps_ret (pe_tup (pa_cons (pe_dget hu (pv 1) (pv 3) (fun _ _ => rfl)) (pa_cons (pv 2) pa_nil))))) pss_nil)
        (pss_one (ps_dput hu (pv 1) (pv 3) (pv 2) rfl))))
      (pss_one (ps_ret (pe_tup (pa_cons pe_int (pa_cons pe_int pa_nil)))))), ?_⟩
    intro d hd
    have hd0 : H d = none := hd
    refine ⟨_, rfl, a, _, rfl, (Same.new hd).seq ha, for_enum (K := K) (a := a) (xs := iv ps) (fun i σ H2 => ∃ (v2 v3 : Option V) (kvs : List (Key × V)), σ = [some (.ref a), some (.ref d), v2, v3] ∧ Same H H2 ∧ H2 d = some (.dK kvs) ∧ kvs.length ≤ i ∧ i ≤ ps.length ∧
        (∀ (q : Nat) v, valV kvs (Sum.inl (q : Int) : Key) = some v → ∃ j : Nat, j < i ∧ v = .int (j : Int) ∧ ps[j]? = some q) ∧ (∀ q : Nat, valV kvs (Sum.inl (q : Int) : Key) = none → ¬ q ∈ ps.take i) ∧ (ps.take i).Nodup)
      ⟨none, none, [], rfl, Same.new hd, upd_same, Nat.le_refl _, Nat.zero_le _, fun q v h => (by cases h), fun q _ => by simp, by simp⟩ (fun i σ H2 _ ⟨_, _, _, _, s2, _⟩ => s2.seq ha) ?_ ?_⟩
    · rintro i x σ H2 U hi ⟨v2, v3, kvs, rfl, s2, hdk, hkl, hil, h1, h2, h3⟩ hU
      have hi' : i < ps.length := by rw [← iv_len]; exact (List.getElem?_eq_some_iff.mp hi).1
      obtain ⟨q, hq⟩ : ∃ q, ps[i]? = some q := ⟨_, List.getElem?_eq_getElem hi'⟩
      rw [iv_at hq] at hi
      cases hi
      have ndU : d ≠ U := ne_of_none hdk hU
      have s3 : Same H (upd H2 U (.tup [.int (i : Nat), .int (q : Int)])) := s2.trans (Same.new hU)
      have hd3 : (upd H2 U (.tup [.int (i : Nat), .int (q : Int)])) d = some (.dK kvs) := by rw [upd_ne ndU]; exact hdk
      refine ⟨U, _, rfl, SqT.of upd_same, rfl, _, _, rfl, _, _, rfl, rfl, ?_⟩
      refine ⟨_, rfl, _, rfl, d, _, rfl, DGet.k (k := Sum.inl (q : Int)) hd3, _, rfl, ?_⟩
      cases e : valV kvs (Sum.inl (q : Int) : Key) with
      | some v =>
        obtain ⟨j, hj, rfl, hjq⟩ := h1 q v e
        refine iteT ?_
        refine ⟨_, rfl, _, rfl, d, _, rfl, by rw [← e]; exact DGet.k (k := Sum.inl (q : Int)) hd3, _, rfl, (by show 2 ≤ sizeLine; decide), fun p hp => ?_⟩
        exact k _ p j i q (s3.trans (Same.new hp)) upd_same hj hjq hq
      | none =>
        refine iteF ?_
        refine ⟨_, rfl, _, rfl, _, rfl, d, _, rfl, DPut.k (k := Sum.inl (q : Int)) hd3 (small1000 (by omega)), ?_⟩
        have et : ps.take (i + 1) = ps.take i ++ [q] := by rw [List.take_add_one, hq]; rfl
        refine ⟨_, _, putK kvs (Sum.inl (q : Int)) (.int (i : Nat)), rfl, s3.mut hd0, upd_same, ?_, hi', fun q' v hv => ?_, fun q' hv => ?_, ?_⟩
        · rw [putK_new _ e, List.length_append]
          simp
          omega
        · rw [valV_put] at hv
          by_cases eq : (Sum.inl (q' : Int) : Key) = Sum.inl (q : Int)
          · rw [if_pos eq] at hv
            cases hv
            have : q' = q := by
              have := Sum.inl.inj eq
              omega
            subst this
            exact ⟨i, by omega, rfl, hq⟩
          · rw [if_neg eq] at hv
            obtain ⟨j, hj, e1, e2⟩ := h1 q' v hv
            exact ⟨j, by omega, e1, e2⟩
        · rw [valV_put] at hv
          by_cases eq : (Sum.inl (q' : Int) : Key) = Sum.inl (q : Int)
          · rw [if_pos eq] at hv
            cases hv
          · rw [if_neg eq] at hv
            rw [et]
            intro hm
            rcases List.mem_append.mp hm with hm | hm
            · exact h2 q' hv hm
            · rw [List.mem_singleton.mp hm] at eq
              exact eq rfl
        · rw [et]
          exact nd_snoc h3 (h2 q e)
    · rintro σ H2 ⟨v2, v3, kvs, rfl, s2, hdk, hkl, hil, h1, h2, h3⟩
      rw [iv_len, List.take_length] at h3
      exact (hnd h3).elim

abbrev sParts : Stmt := top 22
theorem scParts : FnScope ["ways"] ["ways"] (defScope sParts) := ⟨rfl, rfl, rfl, by decide +kernel, rfl, by decide +kernel, by decide +kernel⟩
def spParts (K : PySem.W.Frag) : Sp := fun vs H Q _ => ∃ (a : Addr) (ws : List Nat), vs = [.ref a] ∧ SqL K H a (iv ws) ∧ ∀ H' p xs, H p = none → Same H H' → H' p = some (.lst xs) → xs.length ≤ 1 → Q (.ref p) H'
theorem cal_parts (T : Blt mg) (D : Dfn K mg "as_parts" sParts) : Cal P w K mg base "as_parts" 1 ["ways"] (spParts K) := by
  obtain ⟨f, fd, F, m⟩ := D
  refine ⟨f, fd, F.ok scParts (fun vs H Q E h => ?_) (fun cdv A outer s H vs Q E hr h => ?_), m, F.kp, F.binds fun _ _ _ _ _ _ us hl => match us, hl with | [_], _ => rfl⟩
  · obtain ⟨a, ws, rfl, _⟩ := h
    rfl
  · obtain ⟨a, ws, rfl, ha, k⟩ := h
    refine ⟨_, pss_cons (ps_if (pt_cmpR (op_eqD hr.units) (pv 0) (pe_lst pa_nil) (nomark _)) (pss_one (ps_ret (pe_lst pa_nil))) pss_nil)
      (pss_one (ps_ret (pe_lst (pa_cons (pe_tup (pa_cons (pe_callTy call_list_of (by rfl) T.list (by decide +kernel) (pa_cons (pv 0) pa_nil)) (pa_cons pe_int pa_nil))) pa_nil)))), ?_⟩
    refine ⟨_, rfl, by show 0 ≤ sizeLine; decide, fun p hp => ?_⟩
    have s1 : Same H (upd H p (.lst [])) := Same.new hp
    refine ⟨td (ws.map fun q : Nat => some (q : Int)), td [], dp_td (by rw [← iv_tv]; exact s1.seq ha), dp_td (SqL.of upd_same), shaped_td _, shaped_td _, _, rfl, ?_⟩
    rw [eqv_td]
    refine ite2 (fun _ => ?_) (fun _ => ?_)
    · refine ⟨by show 0 ≤ sizeLine; decide, fun q hq => ?_⟩
      exact k _ q [] (s1.free hq) (s1.trans (Same.new hq)) upd_same (by decide)
    · refine ⟨_, rfl, a, _, rfl, .inl (s1.seq ha), fun l hl => ⟨(by show 2 ≤ sizeLine; decide), fun t ht => ⟨(by show 1 ≤ sizeLine; decide), fun q hq => ?_⟩⟩⟩
      have s2 := s1.trans (Same.new (o := .lst (iv ws)) hl)
      have s3 := s2.trans (Same.new (o := .tup [.ref l, .int 1]) ht)
      exact k _ q _ (s3.free hq) (s3.trans (Same.new hq)) upd_same (Nat.le_refl _)

abbrev sFilled : Stmt := top 23
abbrev nFilled : List Str := ["land", "store", "start", "level", "ways", "first", "again", "ahead", "around", "here", "effect", "gain", "times", "levels", "on", "place"]
theorem scFilled : FnScope nFilled ["land", "store", "start", "level", "ways"] (defScope sFilled) := ⟨rfl, rfl, rfl, by decide +kernel, rfl, by decide +kernel, by decide +kernel⟩
def COk (ways : List W3) : Prop := ∀ w ∈ ways, -1000000000000000000 ≤ w.2.2 ∧ w.2.2 ≤ 1000000000000000000
theorem sum_bd {ways : List W3} (hc : COk ways) : ∀ ws : List Nat, -(1000000000000000000 * (ws.length : Int)) ≤ (csA ways ws).sum ∧ (csA ways ws).sum ≤ 1000000000000000000 * (ws.length : Int)
  | [] => by simp [csA]
  | q :: r => by
    have ih := sum_bd hc r
    have hq : -1000000000000000000 ≤ chgOf ways q ∧ chgOf ways q ≤ 1000000000000000000 := by
      unfold chgOf
      cases e : ways[q]? with
      | none => exact ⟨by decide, by decide⟩
      | some v => exact hc v (List.mem_of_getElem? e)
    have e : (csA ways (q :: r)).sum = chgOf ways q + (csA ways r).sum := by unfold csA; rw [List.map_cons, List.sum_cons]
    rw [e, List.length_cons]
    omega
theorem first_ix {S : Int} : ∀ {xs : List Int}, S ∈ xs → ∃ j : Nat, xs[j]? = some S ∧ ∀ (m : Nat) (z : Int), m < j → xs[m]? = some z → z ≠ S
  | [], h => by simp at h
  | x :: r, h => by
    by_cases e : x = S
    · subst e
      exact ⟨0, rfl, fun m z hm => absurd hm (Nat.not_lt_zero _)⟩
    · have h' : S ∈ r := by
        rcases List.mem_cons.mp h with q | q
        · exact (e q.symm).elim
        · exact q
      obtain ⟨j, h1, h2⟩ := first_ix h'
      refine ⟨j + 1, by simpa using h1, fun m z hm hz => ?_⟩
      cases m with
      | zero =>
        have : x = z := by simpa using hz
        rw [← this]
        exact e
      | succ m => exact h2 m z (by omega) (by simpa using hz)
theorem path_ws {S : Int} {ways : List W3} {ts : List Tb} : ∀ {ws : List Nat} {k p : Nat}, Path S ways ts k p ws → ∀ q ∈ ws, q < ways.length
  | [], k, p, _, q, h => by simp at h
  | a :: r, k, p, h, q, hq => by
    obtain ⟨w, x, b, h1, h2, h3, h4, h5, h6, h7⟩ := h
    rcases List.mem_cons.mp hq with e | e
    · rw [e]
      exact (List.getElem?_eq_some_iff.mp h1).1
    · exact path_ws h7 q e
def spFilled (K : PySem.W.Frag) : Sp := fun vs H Q _ => ∃ (l a wl : Addr) (las : List Addr) (n start : Nat) (S x : Int) (ways : List W3) (ws : List Nat) (starts : Tb) (ts : List Tb) (ms : List (List (Option Nat))),
  vs = [.ref l, .int S, .int (start : Int), .int x, .ref a] ∧ LandAt H l n ways wl las ∧ SqL K H a (iv ws) ∧ Psd S ways starts ts ms ∧ starts.length = n ∧ (∀ p y, g starts p = some y → 0 ≤ y ∧ y ≤ S) ∧ WOk n ways ∧ COk ways ∧ 0 ≤ S ∧ n ≤ 20 ∧ start < n ∧
  Path S ways ts 0 start ws ∧ ws.length + 1 = ts.length ∧ ts.length = n + 1 ∧
  ∀ H' tp tr (q : Nat) xs, Same H H' → H' tp = some (.tup [.int (q : Int), .ref tr]) → H' tr = some (.lst xs) → xs.length ≤ 3 → q < n → g starts q ≠ some S → (∀ L, Lid S ways starts L → le (some S) (L q)) → Q (.ref tp) H'
set_option maxHeartbeats 16000000 in
theorem cal_filled (C1 : Cal P w K mg base "levels_along" 2 ["store", "level", "changes"] (spLevels K)) (C2 : Cal P w K mg base "effect_of" 2 ["store", "changes"] (spEffect K)) (C3 : Cal P w K mg base "changes_of" 1 ["land", "ways"] (spChanges K))
    (C4 : Cal P w K mg base "places_along" 1 ["land", "place", "ways"] (spPlaces K)) (C5 : Cal P w K mg base "twice" 1 ["places"] (spTwice K)) (C6 : Cal P w K mg base "as_parts" 1 ["ways"] (spParts K))
    (D : Dfn K mg "filled" sFilled) : Cal P w K mg base "filled" 3 ["land", "store", "start", "level", "ways"] (spFilled K) := by
  obtain ⟨f, fd, F, m⟩ := D
  obtain ⟨f1, fd1, G1, m1, k1, b1⟩ := C1
  obtain ⟨f2, fd2, G2, m2, k2, b2⟩ := C2
  obtain ⟨f3, fd3, G3, m3, k3, b3⟩ := C3
  obtain ⟨f4, fd4, G4, m4, k4, b4⟩ := C4
  obtain ⟨f5, fd5, G5, m5, k5, b5⟩ := C5
  obtain ⟨f6, fd6, G6, m6, k6, b6⟩ := C6
  refine ⟨f, fd, F.ok scFilled (fun vs H Q E h => ?_) (fun cdv A outer s H vs Q E hr h => ?_), m, F.kp, F.binds fun _ _ _ _ _ _ us hl => match us, hl with | [_, _, _, _, _], _ => rfl⟩
  · obtain ⟨l, a, wl, las, n, start, S, x, ways, ws, starts, ts, ms, rfl, _⟩ := h
    rfl
  · obtain ⟨l, a, wl, las, n, start, S, x, ways, ws, starts, ts, ms, rfl, L, ha, PP, hsl, hbd, hw, hc, hS, hn, hst, hp, hwl, htl, k⟩ := h
    have hr1 : Room 1 _ := hr.mono (by decide)
    refine ⟨_, pss_cons (ps_asg (pe_call G5 hr1 rfl m5 k5 b5 .nil pass0 (pa_cons (pe_call G4 hr1 rfl m4 k4 b4 .nil pass0 (pa_cons (pv 0) (pa_cons (pv 2) (pa_cons (pv 4) pa_nil)))) pa_nil))
        (pg_tup rfl (pgs_cons (pg_name (i := 5) scFilled.nd rfl (Or.inl rfl)) (pgs_cons (pg_name (i := 6) scFilled.nd rfl (Or.inl rfl)) pgs_nil))))
      (pss_cons (ps_set (i := 7) scFilled.nd rfl (.inl rfl) (pe_slice sl_list (pv 4) po_none (po_some (pv 5))))
      (pss_cons (ps_set (i := 8) scFilled.nd rfl (.inl rfl) (pe_slice sl_list (pv 4) (po_some (pv 5)) (po_some (pv 6))))
      (pss_cons (ps_set (i := 9) scFilled.nd rfl (.inl rfl) (pe_ix ix_list (pe_call G1 hr rfl m1 k1 b1 .nil pass0 (pa_cons (pv 1) (pa_cons (pv 3) (pa_cons (pe_call G3 hr1 rfl m3 k3 b3 .nil pass0 (pa_cons (pv 0) (pa_cons (pv 7) pa_nil))) pa_nil)))) (pe_un un_neg pe_int) (fun _ _ => rfl)))
      (pss_cons (ps_set (i := 10) scFilled.nd rfl (.inl rfl) (pe_call G2 hr rfl m2 k2 b2 .nil pass0 (pa_cons (pv 1) (pa_cons (pe_call G3 hr1 rfl m3 k3 b3 .nil pass0 (pa_cons (pv 0) (pa_cons (pv 8) pa_nil))) pa_nil))))
      (pss_cons (ps_set (i := 11) scFilled.nd rfl (.inl rfl) (pe_ix ix_tup (pv 10) pe_int (fun _ _ => rfl)))
      (pss_cons (ps_set (i := 12) scFilled.nd rfl (.inl rfl) (pe_op op_fdivW (pe_op op_sub (pe_op op_add (pe_op op_sub (pe_ix ix_tup (pv 10) pe_int (fun _ _ => rfl)) (pv 9)) (pv 11)) pe_int) (pv 11)))
      (pss_cons (ps_set (i := 13) scFilled.nd rfl (.inl rfl) (pe_call G1 hr rfl m1 k1 b1 .nil pass0 (pa_cons (pv 1) (pa_cons (pe_ix ix_tup (pv 10) pe_int (fun _ _ => rfl)) (pa_cons (pe_call G3 hr1 rfl m3 k3 b3 .nil pass0 (pa_cons (pv 0) (pa_cons (pv 8) pa_nil))) pa_nil)))))
      (pss_cons (ps_set (i := 14) scFilled.nd rfl (.inl rfl) (pe_bm PySem.F.plainAttrs_list PySem.F.slot_list_index PySem.F.type_list_index mt_index (pv 13) (pa_cons (pv 1) pa_nil)))
      (pss_cons (ps_set (i := 15) scFilled.nd rfl (.inl rfl) (pe_ix ix_list (pe_call G4 hr1 rfl m4 k4 b4 .nil pass0 (pa_cons (pv 0) (pa_cons (pv 2) (pa_cons (pv 4) pa_nil)))) (pe_op op_add (pv 5) (pv 14)) (fun _ _ => rfl)))
      (pss_one (ps_ret (pe_tup (pa_cons (pv 15) (pa_cons (pe_op op_cat (pe_op op_cat (pe_call G6 hr1 rfl m6 k6 b6 .nil pass0 (pa_cons (pv 7) pa_nil)) (pe_lst (pa_cons (pe_tup (pa_cons (pv 8) (pa_cons (pv 12) pa_nil))) pa_nil)))
        (pe_call G6 hr1 rfl m6 k6 b6 .nil pass0 (pa_cons (pe_slice sl_list (pv 8) po_none (po_some (pv 14))) pa_nil))) pa_nil)))))))))))))), ?_⟩
    have hws := path_ws hp
    have hwlen : ws.length ≤ 100 := by omega
    -- first, again = twice(places_along(land, start, ways))
    refine ⟨_, rfl, _, rfl, _, rfl, l, a, wl, las, n, start, ways, ws, rfl, L, ha, hws, hwlen, fun H1 p1 hp1 s1 e1 => ?_⟩
    have hnd : ¬ (plA ways start ws).Nodup := fun hnd => by
      have := pigeon n _ hnd (path_places hw hst hp)
      unfold plA at this
      rw [List.length_cons, List.length_map] at this
      omega
    refine ⟨p1, plA ways start ws, rfl, SqL.of e1, by unfold plA; rw [List.length_cons, List.length_map]; omega, hnd, fun H2 p2 i j r s2 e2 hij hi hj => ?_⟩
    have hjl : j ≤ ws.length := by
      have := (List.getElem?_eq_some_iff.mp hj).1
      unfold plA at this
      rw [List.length_cons, List.length_map] at this
      omega
    refine ⟨p2, _, rfl, SqT.of e2, rfl, _, _, rfl, _, _, rfl, rfl, ?_⟩
    have s12 := s1.trans s2
    -- ahead, around
    refine ⟨_, rfl, _, rfl, _, rfl, a, _, rfl, s12.seq ha, fun pa hpa => ?_⟩
    rw [cut_to (by omega : i ≤ ws.length)]
    have s3 : Same H (upd H2 pa (.lst (iv (ws.take i)))) := s12.trans (Same.new hpa)
    have e3 : (upd H2 pa (.lst (iv (ws.take i)))) pa = some (.lst (iv (ws.take i))) := upd_same
    generalize upd H2 pa (.lst (iv (ws.take i))) = H3 at s3 e3 ⊢
    refine ⟨_, rfl, _, rfl, _, rfl, _, rfl, _, rfl, a, _, rfl, s3.seq ha, fun pr hpr => ?_⟩
    rw [cut_in (Nat.le_of_lt hij) hjl]
    have s34 : Same H3 (upd H3 pr (.lst (iv ((ws.drop i).take (j - i))))) := Same.new hpr
    have s4 : Same H (upd H3 pr (.lst (iv ((ws.drop i).take (j - i))))) := s3.trans s34
    have e4 : (upd H3 pr (.lst (iv ((ws.drop i).take (j - i))))) pr = some (.lst (iv ((ws.drop i).take (j - i)))) := upd_same
    have e4a := s34 _ _ e3
    generalize upd H3 pr (.lst (iv ((ws.drop i).take (j - i)))) = H4 at s4 e4 e4a ⊢
    have hwA : ∀ q ∈ ws.take i, q < ways.length := fun q hq => hws q (List.mem_of_mem_take hq)
    have hwR : ∀ q ∈ (ws.drop i).take (j - i), q < ways.length := fun q hq => hws q (List.mem_of_mem_drop (List.mem_of_mem_take hq))
    have hlA : (ws.take i).length ≤ 100 := by rw [List.length_take]; omega
    have hlR : ((ws.drop i).take (j - i)).length ≤ 100 := by rw [List.length_take, List.length_drop]; omega
    -- the round
    obtain ⟨r', hr', hpd, hpl⟩ := hp.drop i (by omega)
    have err : r = r' := by rw [hi] at hr'; exact Option.some.inj hr'
    subst err
    have hq : (plA ways r (ws.drop i))[j - i]? = some r := by
      rw [← hpl, List.getElem?_drop]
      rw [show i + (j - i) = j from by omega]
      exact hj
    subst hsl
    obtain ⟨lst, gn, tp, r1, r2, r3, r4, r5, r6, r7⟩ := round_ok PP hw hS hbd hpd (by rw [List.length_drop]; omega) (by omega : 1 ≤ j - i) (by rw [List.length_drop]; omega) hq
    have hgb := sum_bd hc ((ws.drop i).take (j - i))
    rw [← r2] at hgb
    -- here = levels_along(store, level, changes_of(land, ahead))[-1]
    refine ⟨_, rfl, _, rfl, _, rfl, _, rfl, l, pa, wl, las, _, ways, ws.take i, rfl, L.same s4, SqL.of e4a, hwA, hlA, fun H5 p5 hp5 s5 e5 => ?_⟩
    refine ⟨S, x, p5, _, rfl, SqL.of e5, by unfold csA; rw [List.length_map]; omega, fun H6 p6 hp6 s6 e6 => ?_⟩
    obtain ⟨hh, hhere⟩ : ∃ hh, (lvF S x (csA ways (ws.take i)))[(lvF S x (csA ways (ws.take i))).length - 1]? = some hh :=
      ⟨_, List.getElem?_eq_getElem (by have := List.length_pos_iff.mpr (lvF_ne S x (csA ways (ws.take i))); omega)⟩
    refine ⟨1, rfl, p6, _, -1, .int hh, rfl, rfl, SqL.of e6, atI_end (by rw [List.length_map, List.getElem?_map, hhere]; rfl), ?_⟩
    have s6' := (s4.trans s5).trans s6
    have e6r := s6 _ _ (s5 _ _ e4)
    have e6a := s6 _ _ (s5 _ _ e4a)
    -- effect = effect_of(store, changes_of(land, around))
    refine ⟨_, rfl, _, rfl, _, rfl, l, pr, wl, las, _, ways, _, rfl, L.same s6', SqL.of e6r, hwR, hlR, fun H7 p7 hp7 s7 e7 => ?_⟩
    refine ⟨S, p7, _, rfl, SqL.of e7, fun H8 hn _ => (by rw [r1] at hn; cases hn), fun ef H8 p8 he8 hp8 s8 e8 => ?_⟩
    rw [r1] at he8
    cases he8
    have s8' := (s6'.trans s7).trans s8
    have e8r := s8 _ _ (s7 _ _ e6r)
    have e8a := s8 _ _ (s7 _ _ e6a)
    -- gain, times
    refine ⟨_, rfl, p8, _, 1, _, rfl, rfl, SqT.of e8, atI_nat (j := 1) rfl, ?_⟩
    refine ⟨_, rfl, p8, _, 2, _, rfl, rfl, SqT.of e8, atI_nat (j := 2) rfl, _, rfl, _, _, rfl, rfl, _, rfl, _, _, rfl, rfl, _, _, rfl, rfl, _, rfl, _, gn, rfl, rfl, wide_div (b := 100) r3 (by omega) (by decide) (by decide), ?_⟩
    -- levels = levels_along(store, effect[2], changes_of(land, around))
    refine ⟨_, rfl, _, rfl, p8, _, 2, _, rfl, rfl, SqT.of e8, atI_nat (j := 2) rfl, _, rfl, _, rfl, l, pr, wl, las, _, ways, _, rfl, L.same s8', SqL.of e8r, hwR, hlR, fun H9 p9 hp9 s9 e9 => ?_⟩
    refine ⟨S, tp, p9, _, rfl, SqL.of e9, by unfold csA; rw [List.length_map]; omega, fun HA pA hpA sA eA => ?_⟩
    have sA' := (s8'.trans s9).trans sA
    have eAr := sA _ _ (s9 _ _ e8r)
    have eAa := sA _ _ (s9 _ _ e8a)
    -- on = levels.index(store)
    obtain ⟨on, hon, hfirst⟩ := first_ix r6
    refine ⟨_, rfl, .inl ⟨rfl, _, SqL.of eA⟩, _, rfl, pA, _, .int S, on, .int S, rfl, rfl, SqL.of eA, rfl, ?_, by rw [List.getElem?_map, hon]; rfl, by show (S == S) = true; simp, fun mm z' hm hz => ?_, ?_⟩
    · rw [List.all_map]
      exact List.all_eq_true.mpr fun _ _ => rfl
    · rw [List.getElem?_map] at hz
      cases ez : (lvF S tp (csA ways ((ws.drop i).take (j - i))))[mm]? with
      | none => rw [ez] at hz; cases hz
      | some z =>
        rw [ez] at hz
        cases hz
        have := hfirst mm z hm ez
        show (z == S) = false
        simpa using this
    obtain ⟨o1, q, o2, o3, o4⟩ := r7 on hon
    have hqP : (plA ways start ws)[i + on]? = some q := by
      rw [← hpl, List.getElem?_drop] at o2
      exact o2
    have hqn : q < starts.length := path_places hw hst hp q (List.mem_of_getElem? hqP)
    -- place = places_along(land, start, ways)[first + on]
    refine ⟨_, rfl, _, rfl, _, rfl, l, a, wl, las, _, start, ways, ws, rfl, L.same sA', sA'.seq ha, hws, hwlen, fun HB pB hpB sB eB => ?_⟩
    refine ⟨_, rfl, _, rfl, _, _, rfl, rfl, pB, _, _, .int (q : Int), rfl, rfl, SqL.of eB, at_of (j := i + on) (by omega) (iv_at hqP), ?_⟩
    have sB' := sA'.trans sB
    have eBr := sB _ _ eAr
    have eBa := sB _ _ eAa
    -- the answer
    refine ⟨_, rfl, _, rfl, pa, _, rfl, SqL.of eBa, fun HC pC xC hpC sC eC hxC => ?_⟩
    have sC' := sB'.trans sC
    have eCr := sC _ _ eBr
    refine ⟨_, rfl, _, rfl, (by show 2 ≤ sizeLine; decide), fun p1' hp1' => ⟨(by show 1 ≤ sizeLine; decide), fun p2' hp2' => ?_⟩⟩
    have sD := sC'.trans (Same.new (o := .tup [.ref pr, .int ((tp - hh + gn - 1) / gn)]) hp1')
    have sCD : Same HC (upd HC p1' (.tup [.ref pr, .int ((tp - hh + gn - 1) / gn)])) := Same.new hp1'
    have eD := sCD _ _ eC
    have eDr := sCD _ _ eCr
    generalize upd HC p1' (.tup [.ref pr, .int ((tp - hh + gn - 1) / gn)]) = HD at sD sCD eD eDr hp2' ⊢
    have sE := sD.trans (Same.new (o := .lst [.ref p1']) hp2')
    have sDE : Same HD (upd HD p2' (.lst [.ref p1'])) := Same.new hp2'
    have eE := sDE _ _ eD
    have eEr := sDE _ _ eDr
    have eE2 : (upd HD p2' (.lst [.ref p1'])) p2' = some (.lst [.ref p1']) := upd_same
    generalize upd HD p2' (.lst [.ref p1']) = HE at sE eE eEr eE2 ⊢
    refine ⟨pC, p2', _, _, rfl, rfl, eE, eE2, le1000 (by show xC.length + 1 ≤ 1000; omega), fun p3' hp3' => ?_⟩
    have sF := sE.trans (Same.new (o := .lst (xC ++ [.ref p1'])) hp3')
    have sEF : Same HE (upd HE p3' (.lst (xC ++ [.ref p1']))) := Same.new hp3'
    have eFr := sEF _ _ eEr
    have eF3 : (upd HE p3' (.lst (xC ++ [.ref p1']))) p3' = some (.lst (xC ++ [.ref p1'])) := upd_same
    generalize upd HE p3' (.lst (xC ++ [.ref p1'])) = HF at sF eFr eF3 ⊢
    have hon' : on ≤ ((ws.drop i).take (j - i)).length := by rw [List.length_take, List.length_drop]; omega
    refine ⟨_, rfl, _, rfl, _, rfl, pr, _, rfl, SqL.of eFr, fun p4' hp4' => ?_⟩
    rw [cut_to hon']
    have sFG : Same HF (upd HF p4' (.lst (iv (((ws.drop i).take (j - i)).take on)))) := Same.new hp4'
    have sG := sF.trans sFG
    have eG3 := sFG _ _ eF3
    have eG4 : (upd HF p4' (.lst (iv (((ws.drop i).take (j - i)).take on)))) p4' = some (.lst (iv (((ws.drop i).take (j - i)).take on))) := upd_same
    generalize upd HF p4' (.lst (iv (((ws.drop i).take (j - i)).take on))) = HG at sG eG3 eG4 ⊢
    refine ⟨p4', _, rfl, SqL.of eG4, fun HI pI xI hpI sI eI hxI => ?_⟩
    have eI3 := sI _ _ eG3
    refine ⟨p3', pI, _, _, rfl, rfl, eI3, eI, le1000 (by rw [List.length_append]; show xC.length + 1 + xI.length ≤ 1000; omega), fun tr htr => ⟨(by show 2 ≤ sizeLine; decide), fun tq htq => ?_⟩⟩
    have sJ := (sG.trans sI).trans (Same.new (o := .lst (xC ++ [.ref p1'] ++ xI)) htr)
    have ntt : tr ≠ tq := ne_of_none upd_same htq
    exact k _ tq tr q _ (sJ.trans (Same.new htq)) upd_same (by rw [upd_ne ntt, upd_same]) (by rw [List.length_append, List.length_append]; show xC.length + 1 + xI.length ≤ 3; omega) hqn o3 o4
end
end Tr


set_option Elab.async false
set_option linter.all false
set_option maxRecDepth 100000
set_option maxHeartbeats 4000000
/-! class Heights, highest -/
namespace Tr
open PySem PySem.Spec PyProof.Rows L2
structure TxtH (K : PySem.W.Frag) (C : Addr) : Prop where
  cl : Cls K C
  nC : NoAttr K C "country"
  nS : NoAttr K C "starts"
  nO : NoAttr K C "origins"
  nP : NoAttr K C "passes"
/-- all stands but p -/
def SB (p : Addr) (H H' : Hp) : Prop := ∀ b o, H b = some o → b ≠ p → H' b = some o
theorem SB.new {p q : Addr} {H H' : Hp} {o : HO} (a : SB p H H') (h : H' q = none) : SB p H (upd H' q o) := fun b u e n => by rw [upd_ne (ne_of_none (a b u e n) h)]; exact a b u e n
theorem SB.mut {p q : Addr} {H H' : Hp} {o : HO} (a : SB p H H') (h : H q = none) : SB p H (upd H' q o) := fun b u e n => by rw [upd_ne (ne_of_none e h)]; exact a b u e n
theorem SB.self {p : Addr} {H H' : Hp} {o : HO} (a : SB p H H') : SB p H (upd H' p o) := fun b u e n => by rw [upd_ne n]; exact a b u e n
theorem SB.same {p : Addr} {H H1 H2 : Hp} (a : SB p H H1) (s : Same H1 H2) : SB p H H2 := fun b u e n => s b u (a b u e n)
theorem SB.refl {p : Addr} {H : Hp} : SB p H H := fun _ _ e _ => e
theorem SB.seq {K : PySem.W.Frag} {p : Addr} {H H' : Hp} {a : Addr} {xs : List V} (s : SB p H H') (hp : ∃ C dx fs, H p = some (.ins C dx fs)) (h : SqL K H a xs) : SqL K H' a xs := by
  obtain ⟨C, dx, fs, hp⟩ := hp
  rcases h with (h | ⟨o, h⟩) | h
  · exact .inl (.inl (s _ _ h (ne_of h hp (by intro z; cases z))))
  · exact .inl (.inr ⟨o, s _ _ h (ne_of h hp (by intro z; cases z))⟩)
  · exact .inr h
theorem SB.land {p : Addr} {H H' : Hp} {l : Addr} {n : Nat} {ways : List W3} {wl : Addr} {las : List Addr} (s : SB p H H') (hp : ∃ C dx fs, H p = some (.ins C dx fs)) (h : LandAt H l n ways wl las) : LandAt H' l n ways wl las := by
  obtain ⟨C, dx, fs, hp⟩ := hp
  exact ⟨s _ _ h.tu (ne_of h.tu hp (by intro z; cases z)), s _ _ h.li (ne_of h.li hp (by intro z; cases z)), h.len, fun i a w e1 e2 => s _ _ (h.at_ i a w e1 e2) (ne_of (h.at_ i a w e1 e2) hp (by intro z; cases z))⟩
/-- the heap without some objects -/
def hideH (H : Hp) (as : List Addr) : Hp := fun b => if b ∈ as then none else H b
theorem hide_same {H : Hp} {as : List Addr} : Same (hideH H as) H := fun b o e => by
  unfold hideH at e
  by_cases h : b ∈ as
  · rw [if_pos h] at e; cases e
  · rw [if_neg h] at e; exact e
theorem hide_none {H : Hp} {as : List Addr} {b : Addr} (h : b ∈ as) : hideH H as b = none := if_pos h
theorem hide_some {H : Hp} {as : List Addr} {b : Addr} {o : HO} (h : ¬ b ∈ as) (e : H b = some o) : hideH H as b = some o := by
  unfold hideH
  rw [if_neg h]
  exact e
theorem PsAt.re {C : Addr} {H0 H : Hp} {p lnd : Addr} {S : Int} {ts : List Tb} {ms : List (List (Option Nat))} {dx ta ma : Addr} {tas mas : List Addr} (h : PsAt C H0 H p lnd S ts ms dx ta ma tas mas) : PsAt C (hideH H [p, ta, ma]) H p lnd S ts ms dx ta ma tas mas :=
  ⟨h.ob, h.tl, h.ml, h.tr, h.mr, hide_none (by simp), hide_none (by simp), hide_none (by simp), h.d, h.dt, h.dm⟩
theorem PsAt.hland {C : Addr} {H0 H : Hp} {p lnd : Addr} {S : Int} {ts : List Tb} {ms : List (List (Option Nat))} {dx ta ma : Addr} {tas mas : List Addr} (h : PsAt C H0 H p lnd S ts ms dx ta ma tas mas) {n : Nat} {ways : List W3} {wl : Addr} {las : List Addr}
    (L0 : LandAt H0 lnd n ways wl las) (L : LandAt H lnd n ways wl las) : LandAt (hideH H [p, ta, ma]) lnd n ways wl las := by
  have key : ∀ b o, H0 b = some o → ¬ b ∈ [p, ta, ma] := fun b o e hm => by
    simp only [List.mem_cons, List.not_mem_nil, or_false] at hm
    rcases hm with r | r | r
    · rw [r, h.n0] at e; cases e
    · rw [r, h.n1] at e; cases e
    · rw [r, h.n2] at e; cases e
  exact ⟨hide_some (key _ _ L0.tu) L.tu, hide_some (key _ _ L0.li) L.li, L.len, fun i a w e1 e2 => hide_some (key _ _ (L0.at_ i a w e1 e2)) (L.at_ i a w e1 e2)⟩
/-- an instance beside it is written -/
theorem PsAt.ins {C : Addr} {H0 H : Hp} {p lnd : Addr} {S : Int} {ts : List Tb} {ms : List (List (Option Nat))} {dx ta ma : Addr} {tas mas : List Addr} (h : PsAt C H0 H p lnd S ts ms dx ta ma tas mas) {q C' dx' : Addr} {fs fs' : List (Str × V)} (hq : H q = some (.ins C' dx' fs)) (hpq : p ≠ q) :
    PsAt C H0 (upd H q (.ins C' dx' fs')) p lnd S ts ms dx ta ma tas mas := by
  have kl : ∀ b xs, H b = some (.lst xs) → (upd H q (.ins C' dx' fs')) b = some (.lst xs) := fun b xs e => by rw [upd_ne (ne_of e hq (by intro z; cases z))]; exact e
  exact ⟨by rw [upd_ne hpq]; exact h.ob, kl _ _ h.tl, kl _ _ h.ml, ⟨h.tr.1, fun i b vs e1 e2 => kl _ _ (h.tr.2 i b vs e1 e2)⟩, ⟨h.mr.1, fun i b vs e1 e2 => kl _ _ (h.mr.2 i b vs e1 e2)⟩, h.n0, h.n1, h.n2, h.d, h.dt, h.dm⟩
/-- the origins: a list of tuples of a place and a list of at most c things -/
def OrAt (H : Hp) (oa : Addr) (n c : Nat) : Prop := ∃ os : List Addr, H oa = some (.lst (os.map V.ref)) ∧ os.length = n ∧ ∀ a ∈ os, ∃ (q : Int) (b : Addr) (xs : List V), H a = some (.tup [.int q, .ref b]) ∧ H b = some (.lst xs) ∧ xs.length ≤ c
theorem OrAt.mono {H H' : Hp} {oa : Addr} {n c c' : Nat} (h : OrAt H oa n c) (hc : c ≤ c') (ho : ∀ xs, H oa = some (.lst xs) → H' oa = some (.lst xs)) (ht : ∀ b xs, H b = some (.tup xs) → H' b = some (.tup xs)) (hl : ∀ b xs, H b = some (.lst xs) → xs.length ≤ c → ∃ ys, H' b = some (.lst ys) ∧ ys.length ≤ c') : OrAt H' oa n c' := by
  obtain ⟨os, h1, h2, h3⟩ := h
  refine ⟨os, ho _ h1, h2, fun a ha => ?_⟩
  obtain ⟨q, b, xs, e1, e2, e3⟩ := h3 a ha
  obtain ⟨ys, e4, e5⟩ := hl b xs e2 e3
  exact ⟨q, b, ys, ht _ _ e1, e4, e5⟩
theorem OrAt.same {H H' : Hp} {oa : Addr} {n c : Nat} (h : OrAt H oa n c) (s : Same H H') : OrAt H' oa n c := h.mono (Nat.le_refl _) (fun _ e => s _ _ e) (fun _ _ e => s _ _ e) fun b xs e l => ⟨xs, s _ _ e, l⟩
theorem OrAt.ins {H : Hp} {oa : Addr} {n c : Nat} (h : OrAt H oa n c) {q C' dx' : Addr} {fs fs' : List (Str × V)} (hq : H q = some (.ins C' dx' fs)) : OrAt (upd H q (.ins C' dx' fs')) oa n c :=
  h.mono (Nat.le_refl _) (fun _ e => by rw [upd_ne (ne_of e hq (by intro z; cases z))]; exact e) (fun _ _ e => by rw [upd_ne (ne_of e hq (by intro z; cases z))]; exact e) fun b xs e l => ⟨xs, by rw [upd_ne (ne_of e hq (by intro z; cases z))]; exact e, l⟩
/-- another list written -/
theorem OrAt.lst {H : Hp} {oa : Addr} {n c : Nat} (h : OrAt H oa n c) {q : Addr} {ys zs : List V} (hq : H q = some (.lst zs)) (hn : oa ≠ q) (hy : ys.length ≤ c) : OrAt (upd H q (.lst ys)) oa n c :=
  h.mono (Nat.le_refl _) (fun _ e => by rw [upd_ne hn]; exact e) (fun _ _ e => by rw [upd_ne (ne_of e hq (by intro z; cases z))]; exact e) fun b xs e l => by
    by_cases hb : b = q
    · exact ⟨ys, by rw [hb, upd_same], hy⟩
    · exact ⟨xs, by rw [upd_ne hb]; exact e, l⟩
section
variable {P : Program} {w : World} {K : PySem.W.Frag} {mg : Str → Option Value} {base : Heap} {CP CH : Addr}

abbrev sHI : Stmt := inClass (top 24) 0
abbrev nHI : List Str := ["self", "land", "store", "base", "start", "ways", "place", "trip", "origin", "ahead"]
theorem scHI : FnScope nHI ["self", "land", "store", "base"] (defScope sHI) := ⟨rfl, rfl, rfl, by decide +kernel, rfl, by decide +kernel, by decide +kernel⟩
/-- heights stand at p, with the table T -/
def HeAt (CH CP : Addr) (H : Hp) (p : Addr) (T : Tb) : Prop := ∃ (H0 : Hp) (dx lnd sa oa pa : Addr) (S : Int) (ts : List Tb) (ms : List (List (Option Nat))) (pdx ta ma : Addr) (tas mas : List Addr),
  H p = some (.ins CH dx (fH (.ref lnd) (.ref sa) (.ref oa) (.ref pa))) ∧ PsAt CP H0 H pa lnd S ts ms pdx ta ma tas mas ∧ ts[ts.length - 1]? = some T
def spHI (K : PySem.W.Frag) (CH CP : Addr) : Sp := fun vs H Q _ => ∃ (p dx lnd wl ba : Addr) (las : List Addr) (n : Nat) (S : Int) (ways : List W3) (bs : Tb),
  vs = [.ref p, .ref lnd, .int S, .ref ba] ∧ H p = some (.ins CH dx []) ∧ LandAt H lnd n ways wl las ∧ SqL K H ba (tv bs) ∧ bs.length = n ∧ WOk n ways ∧ COk ways ∧ 0 ≤ S ∧ (∀ p y, g bs p = some y → 0 ≤ y ∧ y ≤ S) ∧ 1 ≤ n ∧ n ≤ 20 ∧
  ∀ H' T, (∀ b o, H b = some o → b ≠ p → H' b = some o) → HeAt CH CP H' p T → IsHigh n S ways bs T → Q .non H'
structure HLoop (CH CP : Addr) (H H' : Hp) (p dx lnd wl sa oa : Addr) (las : List Addr) (n : Nat) (S : Int) (ways : List W3) (bs starts : Tb) : Prop where
  sb : SB p H H'
  st : H' sa = some (.lst (tv starts))
  ori : ∃ c, OrAt H' oa n c ∧ 20 ≤ c ∧ c + 3 * lack S starts ≤ 3 * n + 20
  inv : HInv n S ways bs starts
  ps : ∃ (x : Addr) (H0 : Hp) (ts : List Tb) (ms : List (List (Option Nat))) (pdx ta ma : Addr) (tas mas : List Addr), H' p = some (.ins CH dx (fH (.ref lnd) (.ref sa) (.ref oa) (.ref x))) ∧ PsAt CP H0 H' x lnd S ts ms pdx ta ma tas mas ∧ LandAt H0 lnd n ways wl las ∧ Psd S ways starts ts ms ∧ PsEnd n ts
theorem lack_le {S : Int} {t : Tb} : lack S t ≤ t.length := List.length_filter_le _ _
set_option maxHeartbeats 16000000 in
theorem cal_HI (T : Blt mg) (TP : TxtP K CP) (TH : TxtH K CH) (I1 : ICal P w K mg base CP "Passes" 3 ["self", "land", "store", "starts"] (spPI K CP)) (M1 : MCal P w K mg base CP "risen" 1 ["self"] (spRisen CP)) (M2 : MCal P w K mg base CP "walk_to" 1 ["self", "place"] (spWalk CP))
    (C1 : Cal P w K mg base "filled" 3 ["land", "store", "start", "level", "ways"] (spFilled K)) (D : DfnI K mg CH "Heights" "Heights.__init__" sHI) : ICal P w K mg base CH "Heights" 5 ["self", "land", "store", "base"] (spHI K CH CP) := by
  obtain ⟨f, fd, F, m, mc⟩ := D
  obtain ⟨f1, fd1, G1, m1, mc1, b1⟩ := I1
  obtain ⟨f2, fd2, G2, m2, b2⟩ := M1
  obtain ⟨f3, fd3, G3, m3, b3⟩ := M2
  obtain ⟨f4, fd4, G4, m4, k4, b4⟩ := C1
  refine ⟨f, fd, F.ok scHI (fun vs H Q E h => ?_) (fun cdv A outer s H vs Q E hr h => ?_), m, mc, F.binds fun _ _ _ _ _ _ us hl => match us, hl with | [_, _, _, _], _ => rfl⟩
  · obtain ⟨p, dx, lnd, wl, ba, las, n, S, ways, bs, rfl, _⟩ := h
    rfl
  · obtain ⟨p, dx, lnd, wl, ba, las, n, S, ways, bs, rfl, hp, L, hba, hbl, hw, hc, hS, hbb, hn1, hn, k⟩ := h
    have hr1 : Room 1 _ := hr.mono (by decide)
    have hr3 : Room 3 _ := hr.mono (by decide)
    have hu := hr.units
    refine ⟨_, pss_cons (ps_fld (pv 0) (pv 1) rfl)
      (pss_cons (ps_fld (pv 0) (pe_callTy call_list_of (by rfl) T.list (by decide +kernel) (pa_cons (pv 3) pa_nil)) rfl)
      (pss_cons (ps_fld (pv 0) (pe_lc (own := [("place", 6)]) (g := gName 6) (tt := tYes) (te := tTup (tCons (tVar 6) (tCons (tLst tNil) tNil))) rfl scHI.nd (pi_range1 (by rfl) T.range (pa_cons (pe_ix ix_tup (pv 1) pe_int (fun _ _ => rfl)) pa_nil))
        (blkOk_by (N := nHI) (sc := defScope sHI) (by decide +kernel)) (fun _ _ _ _ _ => pg_name (i := 6) scHI.nd rfl (Or.inl rfl)) (fun _ _ _ _ _ => pts_nil) (fun _ _ _ _ _ => pe_tup (pa_cons (pv 6) (pa_cons (pe_lst pa_nil) pa_nil)))) rfl)
      (pss_cons (ps_fld (pv 0) (pe_make m1 G1 hr rfl mc1 b1 .nil pass0 (pa_cons (pv 1) (pa_cons (pv 2) (pa_cons (pe_fld (pv 0) rfl) pa_nil)))) rfl)
      (pss_one (ps_while PassesOwn.never (PW.pt (pw_and (pt_cmpR op_gt (pe_callB call_len_seq (by rfl) T.len PySem.boot_len (pa_cons (pe_fld (pe_fld (pv 0) rfl) rfl) pa_nil)) (pe_ix ix_tup (pv 1) pe_int (fun _ _ => rfl)) (nomark _))
          (pw_and1 (pt_cmpR (op_neD hr.units) (pe_ix ix_list (pe_fld (pe_fld (pv 0) rfl) rfl) (pe_un un_neg pe_int) (fun _ _ => rfl)) (pe_ix ix_list (pe_fld (pe_fld (pv 0) rfl) rfl) (pe_un un_neg pe_int) (fun _ _ => rfl)) (nomark _)))))
        (pss_cons (ps_asg (pe_meth (pe_fld (pv 0) rfl) TP.cl m3 G3 hr1 b3 .nil pass0 (pa_cons (pe_meth0 (pe_fld (pv 0) rfl) TP.cl m2 G2 hr1 b2 .nil pass0) pa_nil)) (pg_tup rfl (pgs_cons (pg_name (i := 4) scHI.nd rfl (Or.inl rfl)) (pgs_cons (pg_name (i := 5) scHI.nd rfl (Or.inl rfl)) pgs_nil))))
        (pss_cons (ps_asg (pe_call G4 hr3 rfl m4 k4 b4 .nil pass0 (pa_cons (pv 1) (pa_cons (pv 2) (pa_cons (pv 4) (pa_cons (pe_ix ix_list (pe_fld (pv 0) rfl) (pv 4) (fun _ _ => rfl)) (pa_cons (pv 5) pa_nil)))))) (pg_tup rfl (pgs_cons (pg_name (i := 6) scHI.nd rfl (Or.inl rfl)) (pgs_cons (pg_name (i := 7) scHI.nd rfl (Or.inl rfl)) pgs_nil))))
        (pss_cons (ps_asg (pe_ix ix_list (pe_fld (pv 0) rfl) (pv 4) (fun _ _ => rfl)) (pg_tup rfl (pgs_cons (pg_name (i := 8) scHI.nd rfl (Or.inl rfl)) (pgs_cons (pg_name (i := 9) scHI.nd rfl (Or.inl rfl)) pgs_nil))))
        (pss_cons (ps_asg (pe_tup (pa_cons (pv 8) (pa_cons (pe_op op_cat (pv 9) (pv 7)) pa_nil))) (pg_sub (pe_fld (pv 0) rfl) (pv 6) set_list))
        (pss_cons (ps_asg (pv 2) (pg_sub (pe_fld (pv 0) rfl) (pv 6) set_list))
        (pss_one (ps_fld (pv 0) (pe_make m1 G1 hr rfl mc1 b1 .nil pass0 (pa_cons (pv 1) (pa_cons (pv 2) (pa_cons (pe_fld (pv 0) rfl) pa_nil)))) rfl))))))))))))
      , ?_⟩
    -- self.country = land
    refine ⟨_, rfl, _, rfl, p, CH, dx, _, rfl, hp, TH.cl, TH.nC, (by show 0 < 1000; decide), ?_⟩
    have hpi : ∃ C dx fs, H p = some (.ins C dx fs) := ⟨_, _, _, hp⟩
    have s1 : SB p H (upd H p (.ins CH dx (putF "country" (.ref lnd) []))) := SB.refl.self
    have o1 : (upd H p (.ins CH dx (putF "country" (.ref lnd) []))) p = some (.ins CH dx (putF "country" (.ref lnd) [])) := upd_same
    generalize upd H p (.ins CH dx (putF "country" (.ref lnd) [])) = H1 at s1 o1 ⊢
    -- self.starts = list(base)
    refine ⟨_, rfl, ba, _, rfl, .inl (s1.seq hpi hba), fun sa hsa => ?_⟩
    have psa : p ≠ sa := ne_of_none o1 hsa
    have nsa : H sa = none := by
      cases e : H sa with
      | none => rfl
      | some o =>
        rw [s1 sa o e psa.symm] at hsa
        cases hsa
    have o2 : (upd H1 sa (.lst (tv bs))) p = some (.ins CH dx (putF "country" (.ref lnd) [])) := by rw [upd_ne psa]; exact o1
    refine ⟨_, rfl, p, CH, dx, _, rfl, o2, TH.cl, TH.nS, (by show 1 < 1000; decide), ?_⟩
    have s2 : SB p H (upd (upd H1 sa (.lst (tv bs))) p (.ins CH dx (putF "starts" (.ref sa) (putF "country" (.ref lnd) [])))) := (s1.new hsa).self
    have e2 : (upd (upd H1 sa (.lst (tv bs))) p (.ins CH dx (putF "starts" (.ref sa) (putF "country" (.ref lnd) [])))) sa = some (.lst (tv bs)) := by rw [upd_ne psa.symm, upd_same]
    have o3 : (upd (upd H1 sa (.lst (tv bs))) p (.ins CH dx (putF "starts" (.ref sa) (putF "country" (.ref lnd) [])))) p = some (.ins CH dx (putF "starts" (.ref sa) (putF "country" (.ref lnd) []))) := upd_same
    generalize upd (upd H1 sa (.lst (tv bs))) p (.ins CH dx (putF "starts" (.ref sa) (putF "country" (.ref lnd) []))) = H2 at s2 e2 o3 ⊢
    -- self.origins = [(place, []) for place in range(land[0])]
    refine ⟨_, rfl, lnd, _, 0, _, rfl, rfl, SqT.of (s2.land hpi L).tu, atI_nat (j := 0) rfl, n, rfl, by omega, by omega, fun oa hoa => ?_⟩
    have poa : p ≠ oa := ne_of_none o3 hoa
    have saoa : sa ≠ oa := ne_of_none e2 hoa
    have noa : H oa = none := by
      cases e : H oa with
      | none => rfl
      | some o =>
        rw [s2 oa o e poa.symm] at hoa
        cases hoa
    refine lc_range (lo := 0) (n := ((n : Int)).toNat) (fun i H3 => Same H2 H3 ∧ ∃ os : List Addr, H3 oa = some (.lst (os.map V.ref)) ∧ os.length = i ∧ ∀ a ∈ os, a ≠ oa ∧ ∃ (q : Int) (b : Addr), b ≠ oa ∧ H3 a = some (.tup [.int q, .ref b]) ∧ H3 b = some (.lst []))
      ⟨Same.new hoa, [], upd_same, rfl, fun a ha => by simp at ha⟩ ?_ ?_
    · rintro i H3 hi ⟨s3, os, e3, hl3, ho3⟩
      have hi : i < n := by omega
      refine ⟨rfl, _, rfl, (by show 0 ≤ sizeLine; decide), fun b hb => ⟨(by show 2 ≤ sizeLine; decide), fun a ha => ?_⟩⟩
      have nob : oa ≠ b := ne_of_none e3 hb
      have e3b : (upd H3 b (.lst [])) oa = some (.lst (os.map V.ref)) := by rw [upd_ne nob]; exact e3
      have noa' : oa ≠ a := ne_of_none e3b ha
      have nba : b ≠ a := ne_of_none upd_same ha
      have s4 : Same H3 (upd (upd H3 b (.lst [])) a (.tup [.int (0 + (i : Int)), .ref b])) := (Same.new hb).trans (Same.new ha)
      refine ⟨os.map V.ref, by rw [upd_ne noa']; exact e3b, small1000 (by rw [List.length_map]; omega), (s3.trans s4).mut hoa, os ++ [a], by rw [upd_same]; simp, by simp [hl3], fun c hc => ?_⟩
      rcases List.mem_append.mp hc with hc | hc
      · obtain ⟨h1, q, b', h2, h3, h4⟩ := ho3 c hc
        exact ⟨h1, q, b', h2, by rw [upd_ne h1]; exact s4 _ _ h3, by rw [upd_ne h2]; exact s4 _ _ h4⟩
      · rw [List.mem_singleton.mp hc]
        exact ⟨noa'.symm, _, b, nob.symm, by rw [upd_ne noa'.symm, upd_same], by rw [upd_ne nob.symm, upd_ne nba, upd_same]⟩
    · rintro H3 ⟨s3, os, e3, hl3, ho3⟩
      have en : ((n : Int)).toNat = n := by omega
      rw [en] at hl3
      have O3 : OrAt H3 oa n 20 := ⟨os, e3, hl3, fun a ha => by
        obtain ⟨_, q, b, _, h3, h4⟩ := ho3 a ha
        exact ⟨q, b, [], h3, h4, Nat.zero_le _⟩⟩
      have o4 := s3 _ _ o3
      refine ⟨_, rfl, p, CH, dx, _, rfl, o4, TH.cl, TH.nO, (by show 2 < 1000; decide), ?_⟩
      have s5 : SB p H (upd H3 p (.ins CH dx (putF "origins" (.ref oa) (putF "starts" (.ref sa) (putF "country" (.ref lnd) []))))) := (s2.same s3).self
      have O5 := O3.ins (fs' := putF "origins" (.ref oa) (putF "starts" (.ref sa) (putF "country" (.ref lnd) []))) o4
      have e5 : (upd H3 p (.ins CH dx (putF "origins" (.ref oa) (putF "starts" (.ref sa) (putF "country" (.ref lnd) []))))) sa = some (.lst (tv bs)) := by rw [upd_ne psa.symm]; exact s3 _ _ e2
      have o5 : (upd H3 p (.ins CH dx (putF "origins" (.ref oa) (putF "starts" (.ref sa) (putF "country" (.ref lnd) []))))) p = some (.ins CH dx (putF "origins" (.ref oa) (putF "starts" (.ref sa) (putF "country" (.ref lnd) [])))) := upd_same
      generalize upd H3 p (.ins CH dx (putF "origins" (.ref oa) (putF "starts" (.ref sa) (putF "country" (.ref lnd) [])))) = H5 at s5 O5 e5 o5 ⊢
      -- self.passes = Passes(land, store, self.starts)
      have lk5 : (putF "origins" (V.ref oa) (putF "starts" (V.ref sa) (putF "country" (V.ref lnd) []))).lookup ("starts" : Str) = some (V.ref sa) := by rw [lookup_putF, if_neg neH_starts_origins, lookup_putF, if_pos rfl]
      refine ⟨_, rfl, _, rfl, _, rfl, p, CH, dx, _, _, rfl, o5, TH.cl, TH.nS, lk5, fun x pdx hx hpdx hne => ?_⟩
      have hx2 : (upd H5 pdx (.own x)) x = none := by rw [upd_ne hne.symm]; exact hx
      refine ⟨H5, x, pdx, lnd, wl, sa, las, n, S, ways, bs, rfl, upd_same, hx, (Same.new hpdx).trans (Same.new hx2), s5.land hpi L, SqL.of e5, hbl, hw, hn1, hn, fun H6 ts ms pdx' ta ma tas mas s6 I6 P6 E6 => ⟨rfl, ?_⟩⟩
      have o6 := s6 _ _ o5
      refine ⟨_, rfl, p, CH, dx, _, rfl, o6, TH.cl, TH.nP, (by show 3 < 1000; decide), ?_⟩
      have xp : x ≠ p := fun e => by rw [e, o5] at hx; cases hx
      have hL6 : HLoop CH CP H (upd H6 p (.ins CH dx (fH (.ref lnd) (.ref sa) (.ref oa) (.ref x)))) p dx lnd wl sa oa las n S ways bs bs :=
        ⟨(s5.same s6).self, by rw [upd_ne psa.symm]; exact s6 _ _ e5, ⟨20, (O5.same s6).ins o6, Nat.le_refl _, by have := lack_le (S := S) (t := bs); omega⟩, HInv.zero hbl hbb,
          x, H5, ts, ms, pdx', ta, ma, tas, mas, upd_same, I6.ins o6 xp, s5.land hpi L, P6, E6⟩
      -- while len(self.passes.tables) > land[0] and self.passes.tables[-1] != self.passes.tables[-2]
      refine ⟨fun mm σ H' => ∃ (v4 v5 v6 v7 v8 v9 : Option V) (starts : Tb), σ = [some (.ref p), some (.ref lnd), some (.int S), some (.ref ba), v4, v5, v6, v7, v8, v9] ∧ HLoop CH CP H H' p dx lnd wl sa oa las n S ways bs starts ∧ mm = lack S starts,
        ⟨_, none, none, none, none, none, none, bs, rfl, hL6, rfl⟩, ?_⟩
      rintro mm σ H7 ⟨v4, v5, v6, v7, v8, v9, starts, rfl, ⟨sb, est, ⟨c, OA, hc20, hcl⟩, HI, x7, H0, ts7, ms7, pdx7, ta7, ma7, tas7, mas7, o7, I7, L0, P7, E7⟩, rfl⟩
      obtain ⟨q1, q2, q3⟩ := E7
      have L7 := sb.land hpi L
      have hsl := HI.len
      obtain ⟨t1, ht1⟩ : ∃ t, ts7[ts7.length - 1]? = some t := ⟨_, List.getElem?_eq_getElem (by omega)⟩
      obtain ⟨t2, ht2⟩ : ∃ t, ts7[ts7.length - 2]? = some t := ⟨_, List.getElem?_eq_getElem (by omega)⟩
      have ht1' : ts7[ts7.length - 2 + 1]? = some t1 := by rw [← ht1]; congr 1; omega
      have stop : t1 = t2 → Q .non H7 := fun e => by
        refine k H7 t1 sb ⟨H0, dx, lnd, sa, oa, x7, S, ts7, ms7, pdx7, ta7, ma7, tas7, mas7, o7, I7, ht1⟩ ?_
        exact HI.high (starts := starts) hw P7 ht2 ht1' e
      refine ⟨_, rfl, p, CH, dx, _, _, rfl, o7, TH.cl, TH.nP, fH_passes _ _ _ _, x7, CP, pdx7, _, _, rfl, I7.ob, TP.cl, TP.nT, fP_tables _ _ _ _, ta7, _, rfl, .inl (SqL.of I7.tl), _, rfl, lnd, _, 0, _, rfl, rfl, SqT.of L7.tu, atI_nat (j := 0) rfl, _, _, rfl, rfl, _, rfl, ?_⟩
      rw [I7.tlen]
      by_cases hgt : (n : Int) < (ts7.length : Int)
      · refine iteY hgt ?_
        obtain ⟨a1, ha1, hat1⟩ := I7.tab ht1
        obtain ⟨a2, ha2, hat2⟩ := I7.tab ht2
        refine ⟨_, rfl, p, CH, dx, _, _, rfl, o7, TH.cl, TH.nP, fH_passes _ _ _ _, x7, CP, pdx7, _, _, rfl, I7.ob, TP.cl, TP.nT, fP_tables _ _ _ _, 1, rfl, ta7, _, -1, _, rfl, rfl, SqL.of I7.tl, atI_end (by rw [I7.tlen]; exact ha1), ?_⟩
        refine ⟨_, rfl, p, CH, dx, _, _, rfl, o7, TH.cl, TH.nP, fH_passes _ _ _ _, x7, CP, pdx7, _, _, rfl, I7.ob, TP.cl, TP.nT, fP_tables _ _ _ _, 2, rfl, ta7, _, -2, _, rfl, rfl, SqL.of I7.tl, atI_end2 (by rw [I7.tlen]; exact ha2) (by rw [I7.tlen]; omega), ?_⟩
        refine ⟨td t1, td t2, dp_td (SqL.of hat1), dp_td (SqL.of hat2), shaped_td _, shaped_td _, _, rfl, ?_⟩
        rw [eqv_td]
        by_cases heq : t1 = t2
        · refine iteNn heq ?_
          exact stop heq
        · refine iteYn heq ?_
          -- start, ways = self.passes.walk_to(self.passes.risen())
          subst hsl
          have htl : ts7.length = starts.length + 1 := by omega
          have hwS := hw
          obtain ⟨mr, hmr, hmrl, qr, jr, hqr, hjr⟩ := P7.risen hwS ht2 ht1' heq
          have hmr' : ms7[ms7.length - 1]? = some mr := by rw [P7.len, ← hmr]; congr 1; omega
          refine ⟨fun σ' H' => ∃ m', m' < lack S starts ∧ ∃ (v4 v5 v6 v7 v8 v9 : Option V) (starts' : Tb), σ' = [some (.ref p), some (.ref lnd), some (.int S), some (.ref ba), v4, v5, v6, v7, v8, v9] ∧ HLoop CH CP H H' p dx lnd wl sa oa las starts.length S ways bs starts' ∧ m' = lack S starts', fun σ' H' h => h, ?_⟩
          have hlr : ∃ k0, ms7[ts7.length - 1]? = some mr := ⟨0, by rw [← P7.len]; exact hmr'⟩
          obtain ⟨_, hmr2⟩ := hlr
          refine ⟨_, rfl, p, CH, dx, _, _, rfl, o7, TH.cl, TH.nP, fH_passes _ _ _ _, x7, pdx7, _, rfl, I7.ob, fP_no _ _ _ _ _, _, rfl, p, CH, dx, _, _, rfl, o7, TH.cl, TH.nP, fH_passes _ _ _ _, x7, pdx7, _, rfl, I7.ob, fP_no _ _ _ _ _, ?_⟩
          refine ⟨_, x7, lnd, wl, las, _, ways, S, ts7, ms7, mr, pdx7, ta7, ma7, tas7, mas7, rfl, hide_same, I7.hland L0 L7, I7.re, hmr', hmrl, by omega, ⟨qr, jr, hqr, hjr⟩, fun H8 q j s8 hq hj => ?_⟩
          have I8 := I7.same s8
          have L8 := L7.same s8
          refine ⟨_, x7, lnd, wl, las, _, ways, S, starts, ts7, ms7, q, pdx7, ta7, ma7, tas7, mas7, rfl, hide_same, I8.hland L0 L8, I8.re, P7, rfl, hwS, by omega, hq, fun _ => ⟨mr, j, hmr2, hj⟩, fun H9 tp wa sq ws s9 e9 e9w hsq hpath hwl => ?_⟩
          refine ⟨tp, _, rfl, SqT.of e9, rfl, _, _, rfl, _, _, rfl, rfl, ?_⟩
          have s79 := s8.trans s9
          have o9 := s79 _ _ o7
          have est9 := s79 _ _ est
          have L9 := L7.same s79
          -- place, trip = filled(land, store, start, self.starts[start], ways)
          obtain ⟨xx, hxx⟩ : ∃ xx, g starts sq = some xx := by
            cases ws with
            | nil => simp at hwl; omega
            | cons a r =>
              obtain ⟨v, x', b', _, h2, h3, _⟩ := hpath
              exact ⟨x', by rw [← lev_of P7.t0]; exact h3⟩
          refine ⟨_, rfl, _, rfl, _, rfl, _, rfl, p, CH, dx, _, _, rfl, o9, TH.cl, TH.nS, fH_starts _ _ _ _, _, rfl, sa, _, _, _, rfl, rfl, SqL.of est9, atI_nat (tv_at hsq), _, rfl, ?_⟩
          refine ⟨lnd, wa, wl, las, _, sq, S, xx, ways, ws, starts, ts7, ms7, by rw [hxx]; rfl, L9, SqL.of e9w, P7, rfl, HI.bd, hwS, hc, hS, hn, hsq, hpath, hwl, htl, fun HA tpA trA qn xs sA eA eAt hxs hqn hne hlid => ?_⟩
          refine ⟨tpA, _, rfl, SqT.of eA, rfl, _, _, rfl, _, _, rfl, rfl, ?_⟩
          have s7A := s79.trans sA
          have oA := s7A _ _ o7
          have estA := s7A _ _ est
          -- origin, ahead = self.origins[start]
          obtain ⟨os, ho1, ho2, ho3⟩ := OA.same s7A
          obtain ⟨oad, hoad⟩ : ∃ a, os[sq]? = some a := ⟨_, List.getElem?_eq_getElem (by omega)⟩
          obtain ⟨oq, ob, oxs, hoq, hob, hoxs⟩ := ho3 oad (List.mem_of_getElem? hoad)
          refine ⟨_, rfl, p, CH, dx, _, _, rfl, oA, TH.cl, TH.nO, fH_origins _ _ _ _, _, rfl, oa, _, _, _, rfl, rfl, SqL.of ho1, atI_nat (j := sq) (v := V.ref oad) (by rw [List.getElem?_map, hoad]; rfl), oad, _, rfl, SqT.of hoq, rfl, _, _, rfl, _, _, rfl, rfl, ?_⟩
          -- self.origins[place] = (origin, ahead + trip)
          refine ⟨_, rfl, _, rfl, _, rfl, ob, trA, _, _, rfl, rfl, hob, eAt, le1000 (by omega), fun r hr2 => ⟨(by show 2 ≤ sizeLine; decide), fun tt htt => ?_⟩⟩
          have sB : Same HA (upd (upd HA r (.lst (oxs ++ xs))) tt (.tup [.int oq, .ref r])) := (Same.new hr2).trans (Same.new htt)
          have s7B := s7A.trans sB
          have nrt : r ≠ tt := ne_of_none upd_same htt
          have eBr : (upd (upd HA r (.lst (oxs ++ xs))) tt (.tup [.int oq, .ref r])) r = some (.lst (oxs ++ xs)) := by rw [upd_ne nrt, upd_same]
          have eBt : (upd (upd HA r (.lst (oxs ++ xs))) tt (.tup [.int oq, .ref r])) tt = some (.tup [.int oq, .ref r]) := upd_same
          generalize upd (upd HA r (.lst (oxs ++ xs))) tt (.tup [.int oq, .ref r]) = HB at sB s7B eBr eBt ⊢
          have oB := s7B _ _ o7
          have hoB := sB _ _ ho1
          refine ⟨_, rfl, p, CH, dx, _, _, rfl, oB, TH.cl, TH.nO, fH_origins _ _ _ _, _, rfl, oa, _, _, qn, rfl, rfl, hoB, ixN_nat (by rw [List.length_map]; omega), ?_⟩
          have OC : OrAt (upd HB oa (.lst ((os.map V.ref).set qn (.ref tt)))) oa starts.length (c + 3) := by
            refine ⟨os.set qn tt, by rw [upd_same, List.map_set], by rw [List.length_set]; exact ho2, fun a ha => ?_⟩
            have keep : ∀ b ys, HB b = some (.lst ys) → ys.length ≤ c + 3 → ∃ zs, (upd HB oa (.lst ((os.map V.ref).set qn (.ref tt)))) b = some (.lst zs) ∧ zs.length ≤ c + 3 := fun b ys e l => by
              by_cases hb : b = oa
              · exact ⟨_, by rw [hb, upd_same], by rw [List.length_set, List.length_map]; omega⟩
              · exact ⟨ys, by rw [upd_ne hb]; exact e, l⟩
            rcases List.mem_or_eq_of_mem_set ha with h | h
            · obtain ⟨q', b', xs', e1, e2, e3⟩ := ho3 a h
              obtain ⟨zs, e4, e5⟩ := keep b' xs' (sB _ _ e2) (by omega)
              exact ⟨q', b', zs, by rw [upd_ne (ne_of (sB _ _ e1) hoB (by intro z; cases z))]; exact sB _ _ e1, e4, e5⟩
            · rw [h]
              obtain ⟨zs, e4, e5⟩ := keep r _ eBr (by rw [List.length_append]; omega)
              exact ⟨oq, r, zs, by rw [upd_ne (ne_of eBt hoB (by intro z; cases z))]; exact eBt, e4, e5⟩
          have noaH : H oa = none := noa
          have sC : SB p H (upd HB oa (.lst ((os.map V.ref).set qn (.ref tt)))) := (sb.same s7B).mut noaH
          have oC : (upd HB oa (.lst ((os.map V.ref).set qn (.ref tt)))) p = some (.ins CH dx (fH (.ref lnd) (.ref sa) (.ref oa) (.ref x7))) := by rw [upd_ne (ne_of oB hoB (by intro z; cases z))]; exact oB
          have estC : (upd HB oa (.lst ((os.map V.ref).set qn (.ref tt)))) sa = some (.lst (tv starts)) := by rw [upd_ne saoa]; exact s7B _ _ est
          generalize upd HB oa (.lst ((os.map V.ref).set qn (.ref tt))) = HC at OC sC oC estC ⊢
          -- self.starts[place] = store
          refine ⟨_, rfl, _, rfl, p, CH, dx, _, _, rfl, oC, TH.cl, TH.nS, fH_starts _ _ _ _, _, rfl, sa, _, _, qn, rfl, rfl, estC, ixN_nat (by rw [tv_len]; exact hqn), ?_⟩
          have est' : (tv starts).set qn (.int S) = tv (starts.set qn (some S)) := tv_set (o := some S)
          rw [est']
          have OD := OC.lst (ys := tv (starts.set qn (some S))) estC saoa.symm (by rw [tv_len, List.length_set]; omega)
          have sD : SB p H (upd HC sa (.lst (tv (starts.set qn (some S))))) := sC.mut nsa
          have oD : (upd HC sa (.lst (tv (starts.set qn (some S))))) p = some (.ins CH dx (fH (.ref lnd) (.ref sa) (.ref oa) (.ref x7))) := by rw [upd_ne (ne_of oC estC (by intro z; cases z))]; exact oC
          have estD : (upd HC sa (.lst (tv (starts.set qn (some S))))) sa = some (.lst (tv (starts.set qn (some S)))) := upd_same
          generalize upd HC sa (.lst (tv (starts.set qn (some S)))) = HD at OD sD oD estD ⊢
          have HI' := HI.set hS hqn hlid
          have hlk := lack_set hqn hne
          -- self.passes = Passes(land, store, self.starts)
          refine ⟨_, rfl, _, rfl, _, rfl, p, CH, dx, _, _, rfl, oD, TH.cl, TH.nS, fH_starts _ _ _ _, fun y pdx' hy hpdx' hne' => ?_⟩
          have hy2 : (upd HD pdx' (.own y)) y = none := by rw [upd_ne hne'.symm]; exact hy
          refine ⟨HD, y, pdx', lnd, wl, sa, las, _, S, ways, _, rfl, upd_same, hy, (Same.new hpdx').trans (Same.new hy2), sD.land hpi L, SqL.of estD, by rw [List.length_set], hw, hn1, hn, fun HE ts ms pdx2 ta ma tas mas sE IE PE EE => ⟨rfl, ?_⟩⟩
          have oE := sE _ _ oD
          have fset : putF "passes" (V.ref y) (fH (.ref lnd) (.ref sa) (.ref oa) (.ref x7)) = fH (.ref lnd) (.ref sa) (.ref oa) (.ref y) := fH_set_passes _ _ _ _ _
          refine ⟨_, rfl, p, CH, dx, _, rfl, oE, TH.cl, TH.nP, fH_len _ _ _ _, ?_⟩
          rw [fset]
          have yp : y ≠ p := fun e => by rw [e, oD] at hy; cases hy
          refine ⟨_, hlk, _, _, _, _, _, _, _, rfl, ⟨(sD.same sE).self, by rw [upd_ne psa.symm]; exact sE _ _ estD, ⟨c + 3, (OD.same sE).ins oE, by omega, by omega⟩, HI', y, HD, ts, ms, pdx2, ta, ma, tas, mas, upd_same, IE.ins oE yp, sD.land hpi L, PE, EE⟩, rfl⟩
      · refine iteN hgt ?_
        refine stop ?_
        rcases q3 with q3 | q3
        · omega
        · rw [ht1, ht2] at q3
          exact Option.some.inj q3
end
end Tr


set_option Elab.async false
set_option linter.all false
set_option maxRecDepth 100000
set_option maxHeartbeats 4000000
/-! highest, lands, least, lids -/
namespace Tr
open PySem PySem.Spec PyProof.Rows L2
section
variable {P : Program} {w : World} {K : PySem.W.Frag} {mg : Str → Option Value} {base : Heap} {CP CH : Addr}

abbrev sTable : Stmt := inClass (top 24) 1
theorem scTable : FnScope ["self"] ["self"] (defScope sTable) := ⟨rfl, rfl, rfl, by decide +kernel, rfl, by decide +kernel, by decide +kernel⟩
def spTable (CH CP : Addr) : Sp := fun vs H Q _ => ∃ (p : Addr) (T : Tb), vs = [.ref p] ∧ HeAt CH CP H p T ∧ ∀ q, H q = none → Q (.ref q) (upd H q (.lst (tv T)))
theorem cal_table (TP : TxtP K CP) (TH : TxtH K CH) (M1 : MCal P w K mg base CP "last" 1 ["self"] (spLast CP)) (D : DfnM K CH "table" "Heights.table" sTable) : MCal P w K mg base CH "table" 2 ["self"] (spTable CH CP) := by
  obtain ⟨f, fd, F, m⟩ := D
  obtain ⟨f1, fd1, G1, m1, b1⟩ := M1
  refine ⟨f, fd, F.ok scTable (fun vs H Q E h => ?_) (fun cdv A outer s H vs Q E hr h => ?_), m, F.binds fun _ _ _ _ _ _ us hl => match us, hl with | [_], _ => rfl⟩
  · obtain ⟨p, T, rfl, _⟩ := h
    rfl
  · obtain ⟨p, T, rfl, ⟨H0, dx, lnd, sa, oa, pa, S, ts, ms, pdx, ta, ma, tas, mas, ho, I, ht⟩, k⟩ := h
    refine ⟨_, pss_one (ps_ret (pe_meth0 (pe_fld (pv 0) rfl) TP.cl m1 G1 hr b1 .nil pass0)), ?_⟩
    refine ⟨_, rfl, p, CH, dx, _, _, rfl, ho, TH.cl, TH.nP, fH_passes _ _ _ _, pa, pdx, _, rfl, I.ob, fP_no _ _ _ _ _, ?_⟩
    exact ⟨H0, pa, lnd, S, ts, ms, T, pdx, ta, ma, tas, mas, rfl, I, ht, k⟩

abbrev sHighest : Stmt := top 25
theorem scHighest : FnScope ["land", "store", "base"] ["land", "store", "base"] (defScope sHighest) := ⟨rfl, rfl, rfl, by decide +kernel, rfl, by decide +kernel, by decide +kernel⟩
def spHighest (K : PySem.W.Frag) : Sp := fun vs H Q _ => ∃ (lnd wl ba : Addr) (las : List Addr) (n : Nat) (S : Int) (ways : List W3) (bs : Tb),
  vs = [.ref lnd, .int S, .ref ba] ∧ LandAt H lnd n ways wl las ∧ SqL K H ba (tv bs) ∧ bs.length = n ∧ WOk n ways ∧ COk ways ∧ 0 ≤ S ∧ (∀ p y, g bs p = some y → 0 ≤ y ∧ y ≤ S) ∧ 1 ≤ n ∧ n ≤ 20 ∧
  ∀ H' q T, Same H H' → H q = none → H' q = some (.lst (tv T)) → IsHigh n S ways bs T → Q (.ref q) H'
/-- highest, or the same def by another name of the module -/
theorem cal_highest (x : Str) (I1 : ICal P w K mg base CH "Heights" 5 ["self", "land", "store", "base"] (spHI K CH CP)) (TH : TxtH K CH) (M1 : MCal P w K mg base CH "table" 2 ["self"] (spTable CH CP)) (D : ∃ (f : Addr) (fd : FuncData), Fun K "highest" "highest" sHighest f fd ∧ mg x = some (.ref f)) :
    Cal P w K mg base x 7 ["land", "store", "base"] (spHighest K) := by
  obtain ⟨f, fd, F, m⟩ := D
  obtain ⟨f1, fd1, G1, m1, mc1, b1⟩ := I1
  obtain ⟨f2, fd2, G2, m2, b2⟩ := M1
  refine ⟨f, fd, F.ok scHighest (fun vs H Q E h => ?_) (fun cdv A outer s H vs Q E hr h => ?_), m, F.kp, F.binds fun _ _ _ _ _ _ us hl => match us, hl with | [_, _, _], _ => rfl⟩
  · obtain ⟨lnd, wl, ba, las, n, S, ways, bs, rfl, _⟩ := h
    rfl
  · obtain ⟨lnd, wl, ba, las, n, S, ways, bs, rfl, L, hba, hbl, hw, hc, hS, hbb, hn1, hn, k⟩ := h
    have hr2 : Room 2 _ := hr.mono (by decide)
    refine ⟨_, pss_one (ps_ret (pe_meth0 (pe_make m1 G1 hr rfl mc1 b1 .nil pass0 (pa_cons (pv 0) (pa_cons (pv 1) (pa_cons (pv 2) pa_nil)))) TH.cl m2 G2 hr2 b2 .nil pass0)), ?_⟩
    refine ⟨_, rfl, _, rfl, _, rfl, fun x dx hx hdx hne => ?_⟩
    have hx2 : (upd H dx (.own x)) x = none := by rw [upd_ne hne.symm]; exact hx
    have s1 : Same H (upd (upd H dx (.own x)) x (.ins CH dx [])) := (Same.new hdx).trans (Same.new hx2)
    refine ⟨x, dx, lnd, wl, ba, las, n, S, ways, bs, rfl, upd_same, L.same s1, s1.seq hba, hbl, hw, hc, hS, hbb, hn1, hn, fun H1 T sb HE hi => ⟨rfl, ?_⟩⟩
    have s2 : Same H H1 := fun b o e => sb b o (s1 b o e) (ne_of_none e hx)
    have hE := HE
    obtain ⟨H0, dx', lnd', sa, oa, pa, S', ts, ms, pdx, ta, ma, tas, mas, ho, I, ht⟩ := HE
    refine ⟨x, dx', _, rfl, ho, fH_no _ _ _ _ _, x, T, rfl, hE, fun q hq => ?_⟩
    exact k _ q T (s2.trans (Same.new hq)) (s2.free hq) upd_same hi

abbrev sTurned : Stmt := top 28
abbrev nTurned : List Str := ["land", "start", "end", "change"]
theorem scTurned : FnScope nTurned ["land"] (defScope sTurned) := ⟨rfl, rfl, rfl, by decide +kernel, rfl, by decide +kernel, by decide +kernel⟩
def spTurned : Sp := fun vs H Q _ => ∃ (l wl : Addr) (las : List Addr) (n : Nat) (ways : List W3), vs = [.ref l] ∧ LandAt H l n ways wl las ∧ ways.length ≤ 100 ∧
  ∀ H' l' wl' las', Same H H' → LandAt H' l' n (turnW ways) wl' las' → Q (.ref l') H'
theorem cal_turned (D : Dfn K mg "turned_land" sTurned) : Cal P w K mg base "turned_land" 1 ["land"] spTurned := by
  obtain ⟨f, fd, F, m⟩ := D
  refine ⟨f, fd, F.ok scTurned (fun vs H Q E h => ?_) (fun cdv A outer s H vs Q E hr h => ?_), m, F.kp, F.binds fun _ _ _ _ _ _ us hl => match us, hl with | [_], _ => rfl⟩
  · obtain ⟨l, wl, las, n, ways, rfl, _⟩ := h
    rfl
  · obtain ⟨l, wl, las, n, ways, rfl, L, hlen, k⟩ := h
    refine ⟨_, pss_one (ps_ret (pe_tup (pa_cons (pe_ix ix_tup (pv 0) pe_int (fun _ _ => rfl)) (pa_cons (pe_lc (own := [("start", 1), ("end", 2), ("change", 3)]) (g := gTup K 3 (gCons (gName 1) (gCons (gName 2) (gCons (gName 3) gNil)))) (tt := tYes) (te := tTup (tCons (tVar 2) (tCons (tVar 1) (tCons (tVar 3) tNil)))) rfl scTurned.nd
        (pi_list (pe_ix ix_tup (pv 0) pe_int (fun _ _ => rfl))) (blkOk_by (N := nTurned) (sc := defScope sTurned) (by decide +kernel))
        (fun _ _ _ _ _ => pg_tup rfl (pgs_cons (pg_name (i := 1) scTurned.nd rfl (Or.inl rfl)) (pgs_cons (pg_name (i := 2) scTurned.nd rfl (Or.inl rfl)) (pgs_cons (pg_name (i := 3) scTurned.nd rfl (Or.inl rfl)) pgs_nil)))) (fun _ _ _ _ _ => pts_nil)
        (fun _ _ _ _ _ => pe_tup (pa_cons (pv 2) (pa_cons (pv 1) (pa_cons (pv 3) pa_nil))))) pa_nil)))), ?_⟩
    refine ⟨_, rfl, l, _, 0, _, rfl, rfl, SqT.of L.tu, atI_nat (j := 0) rfl, _, rfl, l, _, 1, _, rfl, rfl, SqT.of L.tu, atI_nat (j := 1) rfl, wl, rfl, ⟨_, SqL.of L.li⟩, fun D hD => ?_⟩
    refine lc_list (K := K) (a := wl) (xs := las.map V.ref) (fun i H2 => Same H H2 ∧ ∃ as : List Addr, H2 D = some (.lst (as.map V.ref)) ∧ as.length = i ∧ ∀ (j : Nat) a v, as[j]? = some a → ways[j]? = some v → H2 a = some (.tup (wv (v.2.1, v.1, v.2.2))))
      ⟨Same.new hD, [], upd_same, rfl, fun j a v h => (by simp at h)⟩ (fun i H2 _ ⟨s2, _⟩ => SqL.of (s2 _ _ L.li)) ?_ ?_
    · rintro i x H2 hi ⟨s2, as, hD2, hal, hat⟩
      have hi' : i < las.length := by
        have := (List.getElem?_eq_some_iff.mp hi).1
        rwa [List.length_map] at this
      have hi2 : i < ways.length := by rw [← L.len]; exact hi'
      obtain ⟨v, hv⟩ : ∃ v, ways[i]? = some v := ⟨_, List.getElem?_eq_getElem hi2⟩
      obtain ⟨b, hb1, hb2, hb3⟩ := L.get hv
      rw [hb2] at hi
      cases hi
      refine ⟨b, _, rfl, SqT.of (s2 _ _ hb3), rfl, _, _, rfl, _, _, rfl, _, _, rfl, rfl, rfl, ?_⟩
      refine ⟨_, rfl, _, rfl, _, rfl, (by show 3 ≤ sizeLine; decide), fun t ht => ?_⟩
      have hDt : D ≠ t := ne_of_none hD2 ht
      refine ⟨as.map V.ref, by rw [upd_ne hDt]; exact hD2, small1000 (by rw [List.length_map]; omega), (s2.trans (Same.new ht)).mut hD, as ++ [t], by rw [upd_same]; simp, by simp [hal], fun j a u h1 h2 => ?_⟩
      by_cases hj : j < as.length
      · rw [List.getElem?_append_left hj] at h1
        have e1 := hat j a u h1 h2
        have e2 : (upd H2 t (.tup [.int (v.2.1 : Int), .int (v.1 : Int), .int v.2.2])) a = some (.tup (wv (u.2.1, u.1, u.2.2))) := by rw [upd_ne (ne_of_none e1 ht)]; exact e1
        rw [upd_ne (ne_of e1 hD2 (by intro z; cases z))]
        exact e2
      · have hjl : j < (as ++ [t]).length := (List.getElem?_eq_some_iff.mp h1).1
        have ej : j = as.length := by simp at hjl; omega
        subst ej
        have ea : t = a := by simpa using h1
        subst ea
        rw [hal, hv] at h2
        cases h2
        rw [upd_ne hDt.symm, upd_same]
        rfl
    · rintro H2 ⟨s2, as, hD2, hal, hat⟩
      rw [List.length_map, L.len] at hal
      refine ⟨(by show 2 ≤ sizeLine; decide), fun l' hl' => ?_⟩
      have s3 : Same H2 (upd H2 l' (.tup [.int (n : Int), .ref D])) := Same.new hl'
      refine k _ l' D as (s2.trans s3) ⟨upd_same, s3 _ _ hD2, by rw [hal]; unfold turnW; simp, fun i a u h1 h2 => ?_⟩
      unfold turnW at h2
      rw [List.getElem?_map] at h2
      cases hv : ways[i]? with
      | none => rw [hv] at h2; cases h2
      | some v =>
        rw [hv] at h2
        cases h2
        exact s3 _ _ (hat i a v h1 hv)

abbrev sFromFull : Stmt := top 30
theorem scFromFull : FnScope ["store", "table", "told", "level"] ["store", "table"] (defScope sFromFull) := ⟨rfl, rfl, rfl, by decide +kernel, rfl, by decide +kernel, by decide +kernel⟩
def spFromFull (K : PySem.W.Frag) : Sp := fun vs H Q _ => ∃ (S : Int) (a : Addr) (t : Tb), vs = [.int S, .ref a] ∧ SqL K H a (tv t) ∧ t.length ≤ 100 ∧ ∀ H' q, Same H H' → H q = none → H' q = some (.lst (tv (full S t))) → Q (.ref q) H'
theorem cal_fromFull (D : Dfn K mg "from_full" sFromFull) : Cal P w K mg base "from_full" 1 ["store", "table"] (spFromFull K) := by
  obtain ⟨f, fd, F, m⟩ := D
  refine ⟨f, fd, F.ok scFromFull (fun vs H Q E h => ?_) (fun cdv A outer s H vs Q E hr h => ?_), m, F.kp, F.binds fun _ _ _ _ _ _ us hl => match us, hl with | [_, _], _ => rfl⟩
  · obtain ⟨S, a, t, rfl, _⟩ := h
    rfl
  · obtain ⟨S, a, t, rfl, ha, hlen, k⟩ := h
    refine ⟨_, pss_cons (ps_set (i := 2) scFromFull.nd rfl (.inl rfl) (pe_lst pa_nil))
      (pss_cons (ps_for PassesOwn.never rfl (pi_list (pv 1)) (pg_name (i := 3) scFromFull.nd rfl (Or.inl rfl))
        (pss_one (ps_if (pt_cmpR op_isN (pv 3) pe_non (nomark _)) (pss_one (ps_expr (pe_bm PySem.F.plainAttrs_list PySem.F.slot_list_append PySem.F.type_list_append mt_append (pv 2) (pa_cons pe_non pa_nil))))
          (pss_one (ps_expr (pe_bm PySem.F.plainAttrs_list PySem.F.slot_list_append PySem.F.type_list_append mt_append (pv 2) (pa_cons (pe_op op_sub (pv 0) (pv 3)) pa_nil)))))))
      (pss_one (ps_ret (pv 2)))), ?_⟩
    refine ⟨by show 0 ≤ sizeLine; decide, fun q hq => ?_⟩
    refine ⟨_, rfl, a, rfl, ⟨_, (Same.new hq).seq ha⟩, for_list (K := K) (a := a) (xs := tv t) (fun i σ H2 => ∃ v : Option V, σ = [some (.int S), some (.ref a), some (.ref q), v] ∧ Same H H2 ∧ H2 q = some (.lst (tv (full S (t.take i)))))
      ⟨none, rfl, Same.new hq, upd_same⟩ (fun i σ H2 _ ⟨_, _, s2, _⟩ => s2.seq ha) ?_ ?_⟩
    · rintro i x σ H2 hi ⟨v, rfl, s2, h2⟩
      have hi' : i < t.length := by rw [← tv_len]; exact (List.getElem?_eq_some_iff.mp hi).1
      rw [tv_at hi'] at hi
      cases hi
      have et : t.take (i + 1) = t.take i ++ [g t i] := by rw [List.take_add_one, g_lt hi']; rfl
      have hsz : (tv (full S (t.take i))).length ≤ 1000 := by rw [tv_len, full_len, List.length_take]; omega
      refine ⟨_, rfl, rfl, _, rfl, ?_⟩
      cases hx : g t i with
      | none =>
        refine iteT ?_
        refine ⟨_, rfl, .inl ⟨rfl, _, SqL.of h2⟩, q, _, _, rfl, rfl, h2, small1000 hsz, ?_⟩
        refine ⟨_, rfl, s2.mut hq, ?_⟩
        rw [upd_same, et, hx]
        unfold full tv
        simp [ov]
      | some x =>
        refine iteF ?_
        refine ⟨_, rfl, .inl ⟨rfl, _, SqL.of h2⟩, _, rfl, _, rfl, _, _, rfl, rfl, q, _, _, rfl, rfl, h2, small1000 hsz, ?_⟩
        refine ⟨_, rfl, s2.mut hq, ?_⟩
        rw [upd_same, et, hx]
        unfold full tv
        simp [ov]
    · rintro σ H2 ⟨v, rfl, s2, h2⟩
      rw [tv_len, List.take_length] at h2
      exact ⟨_, rfl, k H2 q s2 hq h2⟩

abbrev sLeast : Stmt := top 31
theorem scLeast : FnScope ["land", "store", "goal"] ["land", "store", "goal"] (defScope sLeast) := ⟨rfl, rfl, rfl, by decide +kernel, rfl, by decide +kernel, by decide +kernel⟩
def spLeast (K : PySem.W.Frag) : Sp := fun vs H Q _ => ∃ (lnd wl ga : Addr) (las : List Addr) (n : Nat) (S : Int) (ways : List W3) (goal : Tb),
  vs = [.ref lnd, .int S, .ref ga] ∧ LandAt H lnd n ways wl las ∧ SqL K H ga (tv goal) ∧ goal.length = n ∧ WOk n ways ∧ COk ways ∧ ways.length ≤ 100 ∧ 0 ≤ S ∧ (∀ p y, g goal p = some y → 0 ≤ y ∧ y ≤ S) ∧ 1 ≤ n ∧ n ≤ 20 ∧
  ∀ H' q known, Same H H' → H q = none → H' q = some (.lst (tv known)) → IsLeast n S ways goal known → Q (.ref q) H'
theorem cal_least (x : Str) (C1 : Cal P w K mg base "from_full" 1 ["store", "table"] (spFromFull K)) (C2 : Cal P w K mg base "highest_highest" 7 ["land", "store", "base"] (spHighest K)) (C3 : Cal P w K mg base "turned_land" 1 ["land"] spTurned)
    (D : ∃ (f : Addr) (fd : FuncData), Fun K "least" "least" sLeast f fd ∧ mg x = some (.ref f)) : Cal P w K mg base x 8 ["land", "store", "goal"] (spLeast K) := by
  obtain ⟨f, fd, F, m⟩ := D
  obtain ⟨f1, fd1, G1, m1, k1, b1⟩ := C1
  obtain ⟨f2, fd2, G2, m2, k2, b2⟩ := C2
  obtain ⟨f3, fd3, G3, m3, k3, b3⟩ := C3
  refine ⟨f, fd, F.ok scLeast (fun vs H Q E h => ?_) (fun cdv A outer s H vs Q E hr h => ?_), m, F.kp, F.binds fun _ _ _ _ _ _ us hl => match us, hl with | [_, _, _], _ => rfl⟩
  · obtain ⟨lnd, wl, ga, las, n, S, ways, goal, rfl, _⟩ := h
    rfl
  · obtain ⟨lnd, wl, ga, las, n, S, ways, goal, rfl, L, hga, hgl, hw, hc, hwl, hS, hgb, hn1, hn, k⟩ := h
    have hr1 : Room 1 _ := hr.mono (by decide)
    refine ⟨_, pss_one (ps_ret (pe_call G1 hr1 rfl m1 k1 b1 .nil pass0 (pa_cons (pv 1) (pa_cons (pe_call G2 hr rfl m2 k2 b2 .nil pass0 (pa_cons (pe_call G3 hr1 rfl m3 k3 b3 .nil pass0 (pa_cons (pv 0) pa_nil)) (pa_cons (pv 1) (pa_cons (pe_call G1 hr1 rfl m1 k1 b1 .nil pass0 (pa_cons (pv 1) (pa_cons (pv 2) pa_nil))) pa_nil)))) pa_nil)))), ?_⟩
    refine ⟨_, rfl, _, rfl, lnd, wl, las, n, ways, rfl, L, hwl, fun H1 l1 wl1 las1 s1 L1 => ?_⟩
    refine ⟨_, rfl, _, rfl, _, rfl, S, ga, goal, rfl, s1.seq hga, by omega, fun H2 q2 s2 hq2 e2 => ?_⟩
    have hbb : ∀ p y, g (full S goal) p = some y → 0 ≤ y ∧ y ≤ S := fun p y h => by
      rw [g_full] at h
      cases e : g goal p with
      | none => rw [e] at h; cases h
      | some z =>
        rw [e] at h
        cases h
        have := hgb p z e
        show 0 ≤ S - z ∧ S - z ≤ S
        omega
    have hc' : COk (turnW ways) := fun v hv => by
      obtain ⟨u, hu, e⟩ := List.mem_map.mp hv
      subst e
      exact hc u hu
    refine ⟨l1, wl1, q2, las1, n, S, turnW ways, full S goal, rfl, L1.same s2, SqL.of e2, by rw [full_len]; exact hgl, turnW_ok hw, hc', hS, hbb, hn1, hn, fun H3 q3 T s3 hq3 e3 hT => ?_⟩
    refine ⟨S, q3, T, rfl, SqL.of e3, by rw [hT.len]; omega, fun H4 q4 s4 hq4 e4 => ?_⟩
    exact k H4 q4 _ ((s1.trans s2).trans (s3.trans s4)) (((s1.trans s2).trans s3).free hq4) e4 ⟨T, hT, rfl⟩
end
end Tr


set_option Elab.async false
set_option linter.all false
set_option maxRecDepth 100000
set_option maxHeartbeats 4000000
/-! tests of things; a keeper's small defs -/
namespace Tr
open PySem PySem.Spec PyProof.Rows L2
structure Glb (mg : Str → Option Value) : Prop where
  ways : ∃ t, mg "MOST_WAYS" = some (.int 40 t)
  label : ∃ t, mg "LAST_LABEL" = some (.int 1000000000000000000 t)
  change : ∃ t, mg "MOST_CHANGE" = some (.int 1000000000000000000 t)
  store : ∃ t, mg "MOST_STORE" = some (.int 100000000000000000000 t)
section
variable {P : Program} {w : World} {K : PySem.W.Frag} {mg : Str → Option Value} {base : Heap}

abbrev sWhole : Stmt := top 2
theorem scWhole : FnScope ["thing"] ["thing"] (defScope sWhole) := ⟨rfl, rfl, rfl, by decide +kernel, rfl, by decide +kernel, by decide +kernel⟩
def spWhole : Sp := fun vs H Q _ => ∃ (x : Int), vs = [.int x] ∧ Q (.bl true) H
theorem cal_whole (T : Blt mg) (D : Dfn K mg "is_whole" sWhole) : Cal P w K mg base "is_whole" 1 ["thing"] spWhole := by
  obtain ⟨f, fd, F, m⟩ := D
  refine ⟨f, fd, F.ok scWhole (fun vs H Q E h => ?_) (fun cdv A outer s H vs Q E hr h => ?_), m, F.kp, F.binds fun _ _ _ _ _ _ us hl => match us, hl with | [_], _ => rfl⟩
  · obtain ⟨x, rfl, _⟩ := h
    rfl
  · obtain ⟨x, rfl, k⟩ := h
    refine ⟨_, pss_one (ps_ret (pe_and (pe_callB call_isi (by rfl) T.isinstance (by decide +kernel) (pa_cons (pv 0) (pa_cons (pe_bltn (v := .ty "int") (by rfl) T.int (by decide +kernel) rfl) pa_nil)))
      (pe_one (pe_not (pe_callB call_isi (by rfl) T.isinstance (by decide +kernel) (pa_cons (pv 0) (pa_cons (pe_bltn (v := .ty "bool") (by rfl) T.bool (by decide +kernel) rfl) pa_nil))))))), ?_⟩
    refine ⟨_, rfl, _, _, _, _, true, rfl, .ty _, .base (.int x), kit_ty (by decide +kernel), _, rfl, iteT ?_⟩
    exact ⟨_, rfl, _, _, _, _, false, rfl, .ty _, .base (.int x), kit_ty (by decide +kernel), _, rfl, k⟩

abbrev sLevel : Stmt := top 34
theorem scLevel : FnScope ["store", "thing"] ["store", "thing"] (defScope sLevel) := ⟨rfl, rfl, rfl, by decide +kernel, rfl, by decide +kernel, by decide +kernel⟩
def spLevel : Sp := fun vs H Q _ => ∃ (S x : Int), vs = [.int S, .int x] ∧ 0 ≤ x ∧ x ≤ S ∧ Q (.bl true) H
theorem cal_level (C1 : Cal P w K mg base "is_whole" 1 ["thing"] spWhole) (D : Dfn K mg "is_level" sLevel) : Cal P w K mg base "is_level" 2 ["store", "thing"] spLevel := by
  obtain ⟨f, fd, F, m⟩ := D
  obtain ⟨f1, fd1, G1, m1, k1, b1⟩ := C1
  refine ⟨f, fd, F.ok scLevel (fun vs H Q E h => ?_) (fun cdv A outer s H vs Q E hr h => ?_), m, F.kp, F.binds fun _ _ _ _ _ _ us hl => match us, hl with | [_, _], _ => rfl⟩
  · obtain ⟨S, x, rfl, _⟩ := h
    rfl
  · obtain ⟨S, x, rfl, h0, h1, k⟩ := h
    refine ⟨_, pss_one (ps_ret (pe_and (pe_call G1 hr rfl m1 k1 b1 .nil pass0 (pa_cons (pv 1) pa_nil)) (pe_one (pe_chain op_le op_le pe_int (pv 1) (pv 0))))), ?_⟩
    refine ⟨_, rfl, x, rfl, _, rfl, iteT ?_⟩
    refine ⟨_, rfl, _, _, rfl, rfl, _, rfl, iteY h0 ?_⟩
    refine ⟨_, rfl, _, _, rfl, rfl, ?_⟩
    show Q (.bl (decide (x ≤ S))) H
    rw [decide_eq_true h1]
    exact k

abbrev sIsTable : Stmt := top 35
abbrev nIsTable : List Str := ["land", "store", "thing", "level"]
theorem scIsTable : FnScope nIsTable ["land", "store", "thing"] (defScope sIsTable) := ⟨rfl, rfl, rfl, by decide +kernel, rfl, by decide +kernel, by decide +kernel⟩
def spIsTable : Sp := fun vs H Q _ => ∃ (l a : Addr) (n : Nat) (S : Int) (t : Tb) (v : V), vs = [.ref l, .int S, .ref a] ∧ H l = some (.tup [.int (n : Int), v]) ∧ H a = some (.lst (tv t)) ∧ t.length = n ∧ n ≤ 100 ∧ (∀ p y, g t p = some y → 0 ≤ y ∧ y ≤ S) ∧
  ∀ H', Same H H' → Q (.bl true) H'
theorem cal_isTable (T : Blt mg) (C1 : Cal P w K mg base "is_level" 2 ["store", "thing"] spLevel) (D : Dfn K mg "is_table" sIsTable) : Cal P w K mg base "is_table" 3 ["land", "store", "thing"] spIsTable := by
  obtain ⟨f, fd, F, m⟩ := D
  obtain ⟨f1, fd1, G1, m1, k1, b1⟩ := C1
  refine ⟨f, fd, F.ok scIsTable (fun vs H Q E h => ?_) (fun cdv A outer s H vs Q E hr h => ?_), m, F.kp, F.binds fun _ _ _ _ _ _ us hl => match us, hl with | [_, _, _], _ => rfl⟩
  · obtain ⟨l, a, n, S, t, v, rfl, _⟩ := h
    rfl
  · obtain ⟨l, a, n, S, t, v, rfl, hl, ha, htn, hn, hb, k⟩ := h
    refine ⟨_, pss_cons (ps_if (PW.pt (pw_or (pt_not (pt_val (pe_callB call_isi (by rfl) T.isinstance (by decide +kernel) (pa_cons (pv 2) (pa_cons (pe_bltn (v := .ty "list") (by rfl) T.list (by decide +kernel) rfl) pa_nil)))))
        (pw_or1 (pt_cmpR op_ne (pe_callB call_len_seq (by rfl) T.len PySem.boot_len (pa_cons (pv 2) pa_nil)) (pe_ix ix_tup (pv 0) pe_int (fun _ _ => rfl)) (nomark _))))) (pss_one (ps_ret pe_bl)) pss_nil)
      (pss_one (ps_ret (pe_callB (cr_all rfl) (by rfl) T.all (by decide +kernel) (pa_cons (pe_lc (own := [("level", 3)]) (g := gName 3) (tt := tYes) (te := tOrV (tOp rIsN (tVar 3) (tC .non)) (tCall spLevel [] E0 (tCons (tVar 1) (tCons (tVar 3) tNil)))) rfl scIsTable.nd (pi_list (pv 2)) (blkOk_by (N := nIsTable) (sc := defScope sIsTable) (by decide +kernel))
        (fun _ _ _ _ _ => pg_name (i := 3) scIsTable.nd rfl (Or.inl rfl)) (fun _ _ _ _ _ => pts_nil) (fun _ _ _ _ _ => pe_or (pe_cmpR op_isN1 (pv 3) pe_non (nomark _)) (pe_one (pe_call G1 hr rfl m1 k1 b1 .nil pass0 (pa_cons (pv 1) (pa_cons (pv 3) pa_nil)))))) pa_nil)))), ?_⟩
    refine ⟨_, rfl, _, _, _, _, true, rfl, .ty _, .base (.lst ha), kit_ty (by decide +kernel), _, rfl, iteF ?_⟩
    refine ⟨_, rfl, a, _, rfl, .inl (SqL.of ha), _, rfl, l, _, 0, _, rfl, rfl, SqT.of hl, atI_nat (j := 0) rfl, rfl, _, rfl, iteNn (by rw [tv_len, htn]) ?_⟩
    refine ⟨_, rfl, a, rfl, ⟨_, SqL.of ha⟩, fun D hD => ?_⟩
    refine lc_list (K := K) (a := a) (xs := tv t) (fun i H2 => Same H H2 ∧ H2 D = some (.lst ((List.replicate i true).map V.bl))) ⟨Same.new hD, upd_same⟩ (fun i H2 _ ⟨s2, _⟩ => SqL.of (s2 _ _ ha)) ?_ ?_
    · rintro i x H2 hi ⟨s2, h2⟩
      have hi' : i < t.length := by rw [← tv_len]; exact (List.getElem?_eq_some_iff.mp hi).1
      rw [tv_at hi'] at hi
      cases hi
      have fin : ∃ acc, H2 D = some (.lst acc) ∧ acc.length < sizeLine ∧ (Same H (upd H2 D (.lst (acc ++ [V.bl true]))) ∧ (upd H2 D (.lst (acc ++ [V.bl true]))) D = some (.lst ((List.replicate (i + 1) true).map V.bl))) := by
        refine ⟨_, h2, small1000 (by rw [List.length_map, List.length_replicate]; omega), s2.mut hD, ?_⟩
        rw [upd_same, List.replicate_succ', List.map_append]
        rfl
      refine ⟨rfl, _, rfl, rfl, _, rfl, ?_⟩
      cases hx : g t i with
      | none => exact iteT fin
      | some y =>
        have := hb i y hx
        exact iteF ⟨_, rfl, _, rfl, S, y, rfl, this.1, this.2, fin⟩
    · rintro H2 ⟨s2, h2⟩
      refine ⟨D, _, rfl, SqL.of h2, ?_⟩
      have e : (List.replicate (tv t).length true).all id = true := by
        rw [List.all_eq_true]
        intro b hb
        rw [(List.mem_replicate.mp hb).2]
        rfl
      show Q (.bl ((List.replicate (tv t).length true).all id)) H2
      rw [e]
      exact k H2 s2

abbrev sIsLabel : Stmt := top 41
theorem scIsLabel : FnScope ["thing"] ["thing"] (defScope sIsLabel) := ⟨rfl, rfl, rfl, by decide +kernel, rfl, by decide +kernel, by decide +kernel⟩
def spIsLabel : Sp := fun vs H Q _ => ∃ (x : Int), vs = [.int x] ∧ 1 ≤ x ∧ x ≤ 1000000000000000000 ∧ Q (.bl true) H
theorem cal_isLabel (G : Glb mg) (C1 : Cal P w K mg base "is_whole" 1 ["thing"] spWhole) (D : Dfn K mg "is_label" sIsLabel) : Cal P w K mg base "is_label" 2 ["thing"] spIsLabel := by
  obtain ⟨f, fd, F, m⟩ := D
  obtain ⟨f1, fd1, G1, m1, k1, b1⟩ := C1
  obtain ⟨t, hG⟩ := G.label
  refine ⟨f, fd, F.ok scIsLabel (fun vs H Q E h => ?_) (fun cdv A outer s H vs Q E hr h => ?_), m, F.kp, F.binds fun _ _ _ _ _ _ us hl => match us, hl with | [_], _ => rfl⟩
  · obtain ⟨x, rfl, _⟩ := h
    rfl
  · obtain ⟨x, rfl, h0, h1, k⟩ := h
    refine ⟨_, pss_one (ps_ret (pe_and (pe_call G1 hr rfl m1 k1 b1 .nil pass0 (pa_cons (pv 0) pa_nil)) (pe_one (pe_chain op_le op_le pe_int (pv 0) (pe_glob (v := .int 1000000000000000000) rfl hG ⟨_, rfl⟩))))), ?_⟩
    refine ⟨_, rfl, x, rfl, _, rfl, iteT ?_⟩
    refine ⟨_, rfl, _, _, rfl, rfl, _, rfl, iteY h0 ?_⟩
    refine ⟨_, _, rfl, rfl, ?_⟩
    show Q (.bl (decide (x ≤ 1000000000000000000))) H
    rw [decide_eq_true h1]
    exact k

abbrev sIsChange : Stmt := top 42
theorem scIsChange : FnScope ["thing"] ["thing"] (defScope sIsChange) := ⟨rfl, rfl, rfl, by decide +kernel, rfl, by decide +kernel, by decide +kernel⟩
def spIsChange : Sp := fun vs H Q _ => ∃ (x : Int), vs = [.int x] ∧ -1000000000000000000 ≤ x ∧ x ≤ 1000000000000000000 ∧ Q (.bl true) H
theorem cal_isChange (G : Glb mg) (C1 : Cal P w K mg base "is_whole" 1 ["thing"] spWhole) (D : Dfn K mg "is_change" sIsChange) : Cal P w K mg base "is_change" 2 ["thing"] spIsChange := by
  obtain ⟨f, fd, F, m⟩ := D
  obtain ⟨f1, fd1, G1, m1, k1, b1⟩ := C1
  obtain ⟨t, hG⟩ := G.change
  refine ⟨f, fd, F.ok scIsChange (fun vs H Q E h => ?_) (fun cdv A outer s H vs Q E hr h => ?_), m, F.kp, F.binds fun _ _ _ _ _ _ us hl => match us, hl with | [_], _ => rfl⟩
  · obtain ⟨x, rfl, _⟩ := h
    rfl
  · obtain ⟨x, rfl, h0, h1, k⟩ := h
    refine ⟨_, pss_one (ps_ret (pe_and (pe_call G1 hr rfl m1 k1 b1 .nil pass0 (pa_cons (pv 0) pa_nil)) (pe_one (pe_chain op_le op_le (pe_op op_sub pe_int (pe_glob (v := .int 1000000000000000000) rfl hG ⟨_, rfl⟩)) (pv 0) (pe_glob (v := .int 1000000000000000000) rfl hG ⟨_, rfl⟩))))), ?_⟩
    refine ⟨_, rfl, x, rfl, _, rfl, iteT ?_⟩
    refine ⟨_, _, rfl, rfl, _, rfl, _, _, rfl, rfl, _, rfl, iteY (by omega) ?_⟩
    refine ⟨_, _, rfl, rfl, ?_⟩
    show Q (.bl (decide (x ≤ 1000000000000000000))) H
    rw [decide_eq_true h1]
    exact k

abbrev sIsLess : Stmt := top 43
theorem scIsLess : FnScope ["one", "other"] ["one", "other"] (defScope sIsLess) := ⟨rfl, rfl, rfl, by decide +kernel, rfl, by decide +kernel, by decide +kernel⟩
def spIsLess : Sp := fun vs H Q _ => ∃ (a b : Option Int), vs = [ov a, ov b] ∧ Q (.bl (lessB a b)) H
theorem less_run {S : Stmt} {H : Hp} {Q : VK} {a b : Option Int} (k : Q (.bl (lessB a b)) H) : (tSeq (tIfS (tTest (tOp rIsN (tVar 0) (tC .non))) (tRet (tC (.bl false))) tNext) (tRet (tOrV (tOp rIsN (tVar 1) (tC .non)) (tOp (rI0 fun i j => .bl (decide (i < j))) (tVar 0) (tVar 1)))))
    { nx := fun _ H' => Q .non H', rt := Q } [some (ov a), some (ov b)] H := by
  refine ⟨_, rfl, rfl, _, rfl, ?_⟩
  cases a with
  | none => exact iteT k
  | some x =>
    refine iteF ?_
    refine ⟨_, rfl, rfl, _, rfl, ?_⟩
    cases b with
    | none => exact iteT k
    | some y => exact iteF ⟨_, rfl, _, rfl, x, y, rfl, rfl, k⟩
theorem cal_isLess (D : Dfn K mg "is_less" sIsLess) : Cal P w K mg base "is_less" 1 ["one", "other"] spIsLess := by
  obtain ⟨f, fd, F, m⟩ := D
  refine ⟨f, fd, F.ok scIsLess (fun vs H Q E h => ?_) (fun cdv A outer s H vs Q E hr h => ?_), m, F.kp, F.binds fun _ _ _ _ _ _ us hl => match us, hl with | [_, _], _ => rfl⟩
  · obtain ⟨a, b, rfl, _⟩ := h
    rfl
  · obtain ⟨a, b, rfl, k⟩ := h
    refine ⟨_, pss_cons (ps_if (pt_cmpR op_isN1 (pv 0) pe_non (nomark _)) (pss_one (ps_ret pe_bl)) pss_nil) (pss_one (ps_ret (pe_or (pe_cmpR op_isN1 (pv 1) pe_non (nomark _)) (pe_one (pe_cmpR op_lt (pv 0) (pv 1) (nomark _)))))), ?_⟩
    exact less_run (S := sIsLess) k
end
end Tr


set_option Elab.async false
set_option linter.all false
set_option maxRecDepth 100000
set_option maxHeartbeats 4000000
/-! dicts of ways by labels; class Keeper -/
namespace Tr
open PySem PySem.Spec PyProof.Rows L2
theorem ins_len_new {l : Int} {w : W3} : ∀ {M : Mp}, lk M l = none → (insM l w M).length = M.length + 1
  | [], _ => rfl
  | q :: r, h => by
    rw [lk_cons] at h
    by_cases e : q.1 = l
    · rw [if_pos e] at h; cases h
    · rw [if_neg e] at h
      unfold insM
      split
      · rfl
      · rw [if_neg (fun z => e z.symm), List.length_cons, ins_len_new h, List.length_cons]
theorem del_len_old {l : Int} : ∀ {M : Mp}, Srt M → l ∈ M.map (·.1) → (delM l M).length + 1 = M.length
  | [], _, h => by simp at h
  | q :: r, hs, h => by
    have hs : (q.1 :: r.map (·.1)).Pairwise (· < ·) := hs
    obtain ⟨a, b⟩ := List.pairwise_cons.mp hs
    have h : l = q.1 ∨ l ∈ r.map (·.1) := by simpa using h
    unfold delM
    by_cases e : q.1 = l
    · have h1 : (q :: r).filter (fun q => decide (q.1 ≠ l)) = r.filter fun q => decide (q.1 ≠ l) := List.filter_cons_of_neg (by simp [e])
      have h2 : r.filter (fun q => decide (q.1 ≠ l)) = r := List.filter_eq_self.mpr fun x hx => by
        have := a x.1 (List.mem_map.mpr ⟨x, hx, rfl⟩)
        simp
        omega
      rw [h1, h2]
      rfl
    · have h1 : (q :: r).filter (fun q => decide (q.1 ≠ l)) = q :: r.filter fun q => decide (q.1 ≠ l) := List.filter_cons_of_pos (by simp [e])
      have h' : l ∈ r.map (·.1) := h.resolve_left fun z => e z.symm
      have ih := del_len_old b h'
      unfold delM at ih
      rw [h1, List.length_cons, ih, List.length_cons]
/-- a dict of ways by labels -/
structure DictAt (H : Hp) (d : Addr) (M : Mp) (kvs : List (Key × V)) : Prop where
  ob : H d = some (.dK kvs)
  nd : (kvs.map (·.1)).Nodup
  ks : ∀ p ∈ kvs, ∃ l : Int, p.1 = Sum.inl l
  len : kvs.length = M.length
  no : ∀ l : Int, lk M l = none → valV kvs (Sum.inl l : Key) = none
  yes : ∀ (l : Int) v, lk M l = some v → ∃ a, valV kvs (Sum.inl l : Key) = some (.ref a) ∧ H a = some (.tup (wv v))
theorem inl_eq {a b : Int} : (Sum.inl a : Key) = Sum.inl b ↔ a = b := ⟨Sum.inl.inj, fun e => by rw [e]⟩
theorem DictAt.iff {H : Hp} {d : Addr} {M : Mp} {kvs : List (Key × V)} (D : DictAt H d M kvs) (l : Int) : (Sum.inl l : Key) ∈ kvs.map (·.1) ↔ l ∈ M.map (·.1) := by
  constructor
  · intro h
    refine Classical.byContradiction fun hn => ?_
    exact valV_not (D.no l (lk_none.mpr hn)) h
  · intro h
    cases e : lk M l with
    | none => exact (lk_none.mp e h).elim
    | some v =>
      obtain ⟨a, h1, _⟩ := D.yes l v e
      exact valV_in h1
theorem DictAt.keep {ds : List Addr} {H H' : Hp} {d : Addr} {M : Mp} {kvs : List (Key × V)} (D : DictAt H d M kvs) (k : Keep ds H H') (hd : ¬ d ∈ ds) : DictAt H' d M kvs :=
  ⟨k.1 _ _ D.ob hd, D.nd, D.ks, D.len, D.no, fun l v e => let ⟨a, h1, h2⟩ := D.yes l v e; ⟨a, h1, k.2 _ _ h2⟩⟩
theorem DictAt.same {H H' : Hp} {d : Addr} {M : Mp} {kvs : List (Key × V)} (D : DictAt H d M kvs) (k : Same H H') : DictAt H' d M kvs := D.keep (ds := []) k.keep (by simp)
theorem DictAt.empty {H : Hp} {d : Addr} (h : H d = some (.dK [])) : DictAt H d [] [] := ⟨h, List.nodup_nil, fun p hp => by simp at hp, rfl, fun _ _ => rfl, fun l v e => by cases e⟩
theorem DictAt.copy {H : Hp} {d p : Addr} {M : Mp} {kvs : List (Key × V)} (D : DictAt H d M kvs) (hp : H p = none) : DictAt (upd H p (.dK kvs)) p M kvs :=
  ⟨upd_same, D.nd, D.ks, D.len, D.no, fun l v e => let ⟨a, h1, h2⟩ := D.yes l v e; ⟨a, h1, by rw [upd_ne (ne_of_none h2 hp)]; exact h2⟩⟩
theorem putK_old_keys {kvs : List (Key × V)} {k : Key} {v w : V} (h : valV kvs k = some w) : (putK kvs k v).map (·.1) = kvs.map (·.1) := by
  have e : (kvs.any fun kv => decide (kv.1 = k)) = true := by rw [valV_any, h]; rfl
  unfold putK
  rw [if_pos e, List.map_map]
  apply List.map_congr_left
  intro p _
  show (if p.1 = k then (p.1, v) else p).1 = p.1
  split <;> rfl
theorem DictAt.put {H : Hp} {d a : Addr} {M : Mp} {kvs : List (Key × V)} {l : Int} {v : W3} (D : DictAt H d M kvs) (hs : Srt M) (ha : H a = some (.tup (wv v))) :
    DictAt (upd H d (.dK (putK kvs (Sum.inl l) (.ref a)))) d (insM l v M) (putK kvs (Sum.inl l) (.ref a)) := by
  have kt : ∀ b xs, H b = some (.tup xs) → (upd H d (.dK (putK kvs (Sum.inl l) (.ref a)))) b = some (.tup xs) := fun b xs e => by rw [upd_ne (ne_of e D.ob (by intro z; cases z))]; exact e
  refine ⟨upd_same, ?_, fun p hp => ?_, ?_, fun j hj => ?_, fun j u hj => ?_⟩
  · cases e : lk M l with
    | none => exact nd_putK _ D.nd (D.no l e)
    | some w =>
      obtain ⟨b, h1, _⟩ := D.yes l w e
      rw [putK_old_keys h1]
      exact D.nd
  · have hk : p.1 ∈ (putK kvs (Sum.inl l) (.ref a)).map (·.1) := List.mem_map.mpr ⟨p, hp, rfl⟩
    cases e : lk M l with
    | none =>
      rw [putK_new _ (D.no l e)] at hp
      rcases List.mem_append.mp hp with h | h
      · exact D.ks p h
      · rw [List.mem_singleton.mp h]
        exact ⟨l, rfl⟩
    | some w =>
      obtain ⟨b, h1, _⟩ := D.yes l w e
      rw [putK_old_keys h1] at hk
      obtain ⟨q, hq, e2⟩ := List.mem_map.mp hk
      obtain ⟨j, hj⟩ := D.ks q hq
      exact ⟨j, by rw [← e2]; exact hj⟩
  · cases e : lk M l with
    | none => rw [putK_new _ (D.no l e), List.length_append, ins_len_new e, D.len]; rfl
    | some w =>
      obtain ⟨b, h1, _⟩ := D.yes l w e
      have h2 := congrArg List.length (putK_old_keys (v := V.ref a) h1)
      rw [List.length_map, List.length_map] at h2
      rw [h2, D.len, ins_len_old hs]
      refine Classical.byContradiction fun hn => ?_
      rw [lk_none.mpr hn] at e
      cases e
  · rw [lk_ins] at hj
    rw [valV_put]
    by_cases e : j = l
    · rw [if_pos e] at hj; cases hj
    · rw [if_neg e] at hj
      rw [if_neg (fun z => e (inl_eq.mp z))]
      exact D.no j hj
  · rw [lk_ins] at hj
    rw [valV_put]
    by_cases e : j = l
    · rw [if_pos e] at hj
      cases hj
      exact ⟨a, by rw [if_pos (inl_eq.mpr e)], kt _ _ ha⟩
    · rw [if_neg e] at hj
      rw [if_neg (fun z => e (inl_eq.mp z))]
      obtain ⟨b, h1, h2⟩ := D.yes j u hj
      exact ⟨b, h1, kt _ _ h2⟩
theorem valV_dropK {k j : Key} : ∀ {kvs : List (Key × V)}, valV (dropK kvs k) j = if j = k then none else valV kvs j
  | [] => by
    show none = _
    split <;> rfl
  | p :: r => by
    by_cases e : p.1 = k
    · rw [dropK_pos e, valV_dropK]
      by_cases h : j = k
      · rw [if_pos h, if_pos h]
      · rw [if_neg h, if_neg h, valV_neg (fun z => h (by rw [← z, e]))]
    · rw [dropK_neg e]
      by_cases h : p.1 = j
      · rw [valV_pos h, if_neg (fun z => e (by rw [h, z])), valV_pos h]
      · rw [valV_neg h, valV_dropK, valV_neg h]
theorem DictAt.drop {H : Hp} {d : Addr} {M : Mp} {kvs : List (Key × V)} {l : Int} {v : W3} (D : DictAt H d M kvs) (hs : Srt M) (hl : lk M l = some v) :
    DictAt (upd H d (.dK (dropK kvs (Sum.inl l)))) d (delM l M) (dropK kvs (Sum.inl l)) := by
  have kt : ∀ b xs, H b = some (.tup xs) → (upd H d (.dK (dropK kvs (Sum.inl l)))) b = some (.tup xs) := fun b xs e => by rw [upd_ne (ne_of e D.ob (by intro z; cases z))]; exact e
  obtain ⟨a, h1, h2⟩ := D.yes l v hl
  refine ⟨upd_same, nd_dropK D.nd, fun p hp => D.ks p (dropK_mem hp), ?_, fun j hj => ?_, fun j u hj => ?_⟩
  · have e1 := dropK_len D.nd (valV_in h1)
    have e2 := del_len_old hs (l := l) (Classical.byContradiction fun hn => by rw [lk_none.mpr hn] at hl; cases hl)
    have := D.len
    omega
  · rw [lk_del] at hj
    rw [valV_dropK]
    by_cases e : j = l
    · rw [if_pos (inl_eq.mpr e)]
    · rw [if_neg e] at hj
      rw [if_neg (fun z => e (inl_eq.mp z))]
      exact D.no j hj
  · rw [lk_del] at hj
    rw [valV_dropK]
    by_cases e : j = l
    · rw [if_pos e] at hj; cases hj
    · rw [if_neg e] at hj
      rw [if_neg (fun z => e (inl_eq.mp z))]
      obtain ⟨b, h3, h4⟩ := D.yes j u hj
      exact ⟨b, h3, kt _ _ h4⟩
/-- its keys, sorted -/
theorem DictAt.keys {H : Hp} {d : Addr} {M : Mp} {kvs : List (Key × V)} (D : DictAt H d M kvs) (hs : Srt M) : ∃ ks : List Int, kvs.map (·.1) = ks.map Sum.inl ∧ ks.length = M.length ∧ ∀ ys : List Int, ys.Perm ks → ys.Pairwise (· ≤ ·) → ys = M.map (·.1) := by
  have go : ∀ kvs : List (Key × V), (∀ p ∈ kvs, ∃ l : Int, p.1 = Sum.inl l) → ∃ ks : List Int, kvs.map (·.1) = ks.map Sum.inl := by
    intro kvs
    induction kvs with
    | nil => intro _; exact ⟨[], rfl⟩
    | cons p r ih =>
      intro h
      obtain ⟨ks, e⟩ := ih fun q hq => h q (List.mem_cons_of_mem _ hq)
      obtain ⟨l, hl⟩ := h p (List.mem_cons_self ..)
      exact ⟨l :: ks, by rw [List.map_cons, List.map_cons, e, hl]⟩
  obtain ⟨ks, e⟩ := go kvs D.ks
  have hnd : ks.Nodup := by
    have h := D.nd
    rw [e] at h
    unfold List.Nodup at h ⊢
    rw [List.pairwise_map] at h
    exact h.imp fun hab z => hab (by rw [z])
  have hmem : ∀ l, l ∈ ks ↔ l ∈ M.map (·.1) := fun l => by
    rw [← D.iff l, e]
    constructor
    · intro h
      exact List.mem_map.mpr ⟨l, h, rfl⟩
    · intro h
      obtain ⟨j, hj, ej⟩ := List.mem_map.mp h
      rw [← inl_eq.mp ej]
      exact hj
  refine ⟨ks, e, ?_, fun ys hp hle => ?_⟩
  · have := congrArg List.length e
    rw [List.length_map, List.length_map] at this
    rw [← this, D.len]
  · have hyn : ys.Nodup := hp.nodup_iff.mpr hnd
    have hlt : ys.Pairwise (· < ·) := by
      have h2 : ys.Pairwise fun a b => a ≤ b ∧ a ≠ b := List.Pairwise.and hle hyn
      exact h2.imp fun h => by omega
    exact srt_keys hlt hs fun k => by rw [hp.mem_iff, hmem]
end Tr


set_option Elab.async false
set_option linter.all false
set_option maxRecDepth 100000
set_option maxHeartbeats 4000000
/-! class Keeper: what stands, land, told -/
namespace Tr
open PySem PySem.Spec PyProof.Rows L2
structure TxtK (K : PySem.W.Frag) (C : Addr) : Prop where
  cl : Cls K C
  nP : NoAttr K C "places"
  nH : NoAttr K C "held"
  nW : NoAttr K C "wanted"
  nK : NoAttr K C "kept"
  nN : NoAttr K C "known"
structure KOk (n : Nat) (S : Int) (goal : Tb) (M : Mp) : Prop where
  n1 : 1 ≤ n
  n2 : n ≤ 12
  s1 : 0 ≤ S
  s2 : S ≤ 100000000000000000000
  gl : goal.length = n
  gb : ∀ p y, g goal p = some y → 0 ≤ y ∧ y ≤ S
  srt : Srt M
  ml : M.length ≤ 9
  wk : WOk n (wsM M)
  ck : COk (wsM M)
  lb : ∀ q ∈ M, 1 ≤ q.1 ∧ q.1 ≤ 1000000000000000000
theorem KOk.ins {n : Nat} {S : Int} {goal : Tb} {M : Mp} (h : KOk n S goal M) {l : Int} {s e : Nat} {c : Int} (hl : 1 ≤ l ∧ l ≤ 1000000000000000000) (hs : s < n) (he : e < n) (hc : -1000000000000000000 ≤ c ∧ c ≤ 1000000000000000000) (hm : (insM l (s, e, c) M).length ≤ 9) : KOk n S goal (insM l (s, e, c) M) := by
  refine ⟨h.n1, h.n2, h.s1, h.s2, h.gl, h.gb, srt_ins h.srt, hm, fun v hv => ?_, fun v hv => ?_, fun q hq => ?_⟩
  · obtain ⟨q, hq, rfl⟩ := List.mem_map.mp hv
    rcases mem_ins h.srt hq with e1 | ⟨_, e2⟩
    · rw [e1]; exact ⟨hs, he⟩
    · exact h.wk _ (List.mem_map.mpr ⟨q, e2, rfl⟩)
  · obtain ⟨q, hq, rfl⟩ := List.mem_map.mp hv
    rcases mem_ins h.srt hq with e1 | ⟨_, e2⟩
    · rw [e1]; exact hc
    · exact h.ck _ (List.mem_map.mpr ⟨q, e2, rfl⟩)
  · rcases mem_ins h.srt hq with e1 | ⟨_, e2⟩
    · rw [e1]; exact hl
    · exact h.lb q e2
theorem KOk.del {n : Nat} {S : Int} {goal : Tb} {M : Mp} (h : KOk n S goal M) {l : Int} : KOk n S goal (delM l M) := by
  have sub : ∀ q ∈ delM l M, q ∈ M := fun q hq => (List.mem_filter.mp hq).1
  refine ⟨h.n1, h.n2, h.s1, h.s2, h.gl, h.gb, srt_del h.srt, Nat.le_trans del_len h.ml, fun v hv => ?_, fun v hv => ?_, fun q hq => h.lb q (sub q hq)⟩
  · obtain ⟨q, hq, rfl⟩ := List.mem_map.mp hv
    exact h.wk _ (List.mem_map.mpr ⟨q, sub q hq, rfl⟩)
  · obtain ⟨q, hq, rfl⟩ := List.mem_map.mp hv
    exact h.ck _ (List.mem_map.mpr ⟨q, sub q hq, rfl⟩)
/-- a keeper at p, its dict at d; hd: a list of others that it does not hold -/
structure KeepAt (C hd : Addr) (H : Hp) (p d : Addr) (n : Nat) (S : Int) (goal : Tb) (M : Mp) (known : Tb) (dx ga ka : Addr) (kvs : List (Key × V)) : Prop where
  ob : H p = some (.ins C dx (fK (.int (n : Int)) (.int S) (.ref ga) (.ref d) (.ref ka)))
  go : H ga = some (.lst (tv goal))
  di : DictAt H d M kvs
  kn : H ka = some (.lst (tv known))
  hl : ∃ xs, H hd = some (.lst xs)
  n1 : ga ≠ hd
  n2 : ka ≠ hd
def KA (C hd : Addr) (H : Hp) (p d : Addr) (n : Nat) (S : Int) (goal : Tb) (M : Mp) (known : Tb) : Prop := ∃ dx ga ka kvs, KeepAt C hd H p d n S goal M known dx ga ka kvs
theorem KeepAt.same {C hd : Addr} {H H' : Hp} {p d : Addr} {n : Nat} {S : Int} {goal : Tb} {M : Mp} {known : Tb} {dx ga ka : Addr} {kvs : List (Key × V)} (h : KeepAt C hd H p d n S goal M known dx ga ka kvs) (s : Same H H') : KeepAt C hd H' p d n S goal M known dx ga ka kvs :=
  ⟨s _ _ h.ob, s _ _ h.go, h.di.same s, s _ _ h.kn, let ⟨xs, e⟩ := h.hl; ⟨xs, s _ _ e⟩, h.n1, h.n2⟩
/-- the others' list is written -/
theorem KeepAt.hand {C hd : Addr} {H H' : Hp} {p d : Addr} {n : Nat} {S : Int} {goal : Tb} {M : Mp} {known : Tb} {dx ga ka : Addr} {kvs : List (Key × V)} (h : KeepAt C hd H p d n S goal M known dx ga ka kvs) (s : Keep [hd] H H') (hh : ∃ xs, H' hd = some (.lst xs)) : KeepAt C hd H' p d n S goal M known dx ga ka kvs := by
  obtain ⟨xs, e⟩ := h.hl
  have hp : ¬ p ∈ [hd] := fun hm => by
    have := h.ob
    rw [List.mem_singleton.mp hm, e] at this
    cases this
  have hd' : ¬ d ∈ [hd] := fun hm => by
    have := h.di.ob
    rw [List.mem_singleton.mp hm, e] at this
    cases this
  exact ⟨s.1 _ _ h.ob hp, s.1 _ _ h.go (by simpa using h.n1), h.di.keep s hd', s.1 _ _ h.kn (by simpa using h.n2), hh, h.n1, h.n2⟩
section
variable {P : Program} {w : World} {K : PySem.W.Frag} {mg : Str → Option Value} {base : Heap} {C : Addr}

abbrev sLand : Stmt := inClass (top 44) 12
theorem scLand : FnScope ["self", "label"] ["self"] (defScope sLand) := ⟨rfl, rfl, rfl, by decide +kernel, rfl, by decide +kernel, by decide +kernel⟩
def spLand (C : Addr) : Sp := fun vs H Q _ => ∃ (p dx d : Addr) (fs : List (Str × V)) (n : Nat) (M : Mp) (kvs : List (Key × V)), vs = [.ref p] ∧ H p = some (.ins C dx fs) ∧ fs.lookup ("places" : Str) = some (.int (n : Int)) ∧ fs.lookup ("kept" : Str) = some (.ref d) ∧
  DictAt H d M kvs ∧ Srt M ∧ M.length < 64 ∧ ∀ H' l wl las, Same H H' → LandAt H' l n (wsM M) wl las → Q (.ref l) H'
theorem cal_land (T : Blt mg) (TK : TxtK K C) (D : DfnM K C "land" "Keeper.land" sLand) : MCal P w K mg base C "land" 1 ["self"] (spLand C) := by
  obtain ⟨f, fd, F, m⟩ := D
  refine ⟨f, fd, F.ok scLand (fun vs H Q E h => ?_) (fun cdv A outer s H vs Q E hr h => ?_), m, F.binds fun _ _ _ _ _ _ us hl => match us, hl with | [_], _ => rfl⟩
  · obtain ⟨p, dx, d, fs, n, M, kvs, rfl, _⟩ := h
    rfl
  · obtain ⟨p, dx, d, fs, n, M, kvs, rfl, hp, l1, l2, DA, hs, hml, k⟩ := h
    have hu := hu_of hr
    refine ⟨_, pss_one (ps_ret (pe_tup (pa_cons (pe_fld (pv 0) rfl) (pa_cons (pe_lc (own := [("label", 1)]) (g := gName 1) (tt := tYes) (te := tDGet (tFld K (tVar 0) "kept") (tVar 1)) rfl scLand.nd (pi_list (pe_callB (call_sortedDI rfl) (by rfl) T.sorted (by decide +kernel) (pa_cons (pe_fld (pv 0) rfl) pa_nil)))
        (blkOk_by (N := ["self", "label"]) (sc := defScope sLand) (by decide +kernel)) (fun _ _ _ _ _ => pg_name (i := 1) scLand.nd rfl (Or.inl rfl)) (fun _ _ _ _ _ => pts_nil) (fun _ _ _ _ _ => pe_dget hu (pe_fld (pv 0) rfl) (pv 1) (fun _ _ => rfl))) pa_nil)))), ?_⟩
    obtain ⟨ks, hks, hkl, hks2⟩ := DA.keys hs
    refine ⟨_, rfl, p, C, dx, _, _, rfl, hp, TK.cl, TK.nP, l1, _, rfl, p, C, dx, _, _, rfl, hp, TK.cl, TK.nK, l2, d, kvs, ks, rfl, .inl DA.ob, hks, by omega, fun ys a hperm hle ha => ?_⟩
    have ey := hks2 ys hperm hle
    subst ey
    have s1 : Same H (upd H a (.lst ((M.map (·.1)).map V.int))) := Same.new ha
    refine ⟨a, rfl, ⟨_, SqL.of upd_same⟩, fun D hD => ?_⟩
    have hD0 := s1.free hD
    have naD : a ≠ D := ne_of_none upd_same hD
    refine lc_list (K := K) (a := a) (xs := (M.map (·.1)).map V.int) (fun i H2 => Same H H2 ∧ H2 a = some (.lst ((M.map (·.1)).map V.int)) ∧ ∃ as : List Addr, H2 D = some (.lst (as.map V.ref)) ∧ as.length = i ∧ ∀ (j : Nat) b v, as[j]? = some b → (wsM M)[j]? = some v → H2 b = some (.tup (wv v)))
      ⟨s1.trans (Same.new hD), by rw [upd_ne naD, upd_same], [], upd_same, rfl, fun j a v h => (by simp at h)⟩ (fun i H2 _ ⟨_, h, _⟩ => SqL.of h) ?_ ?_
    · rintro i x H2 hi ⟨s2, ha2, as, hD2, hal, hat⟩
      have hi' : i < M.length := by
        have := (List.getElem?_eq_some_iff.mp hi).1
        rwa [List.length_map, List.length_map] at this
      obtain ⟨q, hq⟩ : ∃ q, M[i]? = some q := ⟨_, List.getElem?_eq_getElem hi'⟩
      rw [List.getElem?_map, List.getElem?_map, hq] at hi
      cases hi
      obtain ⟨b, h1, h2⟩ := DA.yes q.1 q.2 (mem_lk hs (List.mem_of_getElem? hq))
      refine ⟨rfl, _, rfl, p, C, dx, _, _, rfl, s2 _ _ hp, TK.cl, TK.nK, l2, _, rfl, d, .ref b, rfl, by rw [← h1]; exact DGet.k (k := Sum.inl q.1) (s2 _ _ DA.ob), ?_⟩
      refine ⟨_, hD2, small1000 (by rw [List.length_map]; omega), s2.mut hD0, by rw [upd_ne naD]; exact ha2, as ++ [b], by rw [upd_same]; simp, by simp [hal], fun j c v e1 e2 => ?_⟩
      have kt : ∀ b xs, H2 b = some (.tup xs) → (upd H2 D (.lst (as.map V.ref ++ [.ref b]))) b = some (.tup xs) := fun b xs e => by rw [upd_ne (ne_of e hD2 (by intro z; cases z))]; exact e
      by_cases hj : j < as.length
      · rw [List.getElem?_append_left hj] at e1
        have e3 := hat j c v e1 e2
        rw [upd_ne (ne_of e3 hD2 (by intro z; cases z))]
        exact e3
      · have hjl : j < (as ++ [b]).length := (List.getElem?_eq_some_iff.mp e1).1
        have ej : j = as.length := by simp at hjl; omega
        subst ej
        have ea : b = c := by simpa using e1
        subst ea
        unfold wsM at e2
        rw [hal, List.getElem?_map, hq] at e2
        cases e2
        have e3 := s2 _ _ h2
        rw [upd_ne (ne_of e3 hD2 (by intro z; cases z))]
        exact e3
    · rintro H2 ⟨s2, ha2, as, hD2, hal, hat⟩
      rw [List.length_map, List.length_map] at hal
      refine ⟨(by show 2 ≤ sizeLine; decide), fun l' hl' => ?_⟩
      have s3 : Same H2 (upd H2 l' (.tup [.int (n : Int), .ref D])) := Same.new hl'
      exact k _ l' D as (s2.trans s3) ⟨upd_same, s3 _ _ hD2, by rw [hal]; unfold wsM; simp, fun i a u h1 h2 => s3 _ _ (hat i a u h1 h2)⟩

abbrev sKLeast : Stmt := inClass (top 44) 13
theorem scKLeast : FnScope ["self"] ["self"] (defScope sKLeast) := ⟨rfl, rfl, rfl, by decide +kernel, rfl, by decide +kernel, by decide +kernel⟩
def spKLeast (C : Addr) : Sp := fun vs H Q _ => ∃ (hd p d : Addr) (n : Nat) (S : Int) (goal : Tb) (M : Mp) (known : Tb) (dx ga ka : Addr) (kvs : List (Key × V)), vs = [.ref p] ∧ KeepAt C hd H p d n S goal M known dx ga ka kvs ∧ ∀ q, H q = none → Q (.ref q) (upd H q (.lst (tv known)))
theorem cal_kLeast (T : Blt mg) (TK : TxtK K C) (D : DfnM K C "least" "Keeper.least" sKLeast) : MCal P w K mg base C "least" 1 ["self"] (spKLeast C) := by
  obtain ⟨f, fd, F, m⟩ := D
  refine ⟨f, fd, F.ok scKLeast (fun vs H Q E h => ?_) (fun cdv A outer s H vs Q E hr h => ?_), m, F.binds fun _ _ _ _ _ _ us hl => match us, hl with | [_], _ => rfl⟩
  · obtain ⟨hd, p, d, n, S, goal, M, known, dx, ga, ka, kvs, rfl, _⟩ := h
    rfl
  · obtain ⟨hd, p, d, n, S, goal, M, known, dx, ga, ka, kvs, rfl, I, k⟩ := h
    refine ⟨_, pss_one (ps_ret (pe_callTy call_list_of (by rfl) T.list (by decide +kernel) (pa_cons (pe_fld (pv 0) rfl) pa_nil))), ?_⟩
    exact ⟨_, rfl, p, C, dx, _, _, rfl, I.ob, TK.cl, TK.nN, fK_known _ _ _ _ _, ka, _, rfl, .inl (SqL.of I.kn), k⟩

/-- what a deed tells -/
def ToldK (C hd : Addr) (H : Hp) (p d : Addr) (n : Nat) (S : Int) (goal : Tb) (M : Mp) (old : Tb) (Q : VK) : Prop := ∀ H' known fa ra tp, Keep [p, d] H H' → KA C hd H' p d n S goal M known → IsLeast n S (wsM M) goal known →
  H' tp = some (.tup [.ref fa, .ref ra]) → H' fa = some (.lst (iv (movedL n known old))) → H' ra = some (.lst (iv (movedL n old known))) → Q (.ref tp) H'
abbrev sTold : Stmt := inClass (top 44) 2
abbrev nTold : List Str := ["self", "old", "fell", "rose", "place"]
theorem scTold : FnScope nTold ["self"] (defScope sTold) := ⟨rfl, rfl, rfl, by decide +kernel, rfl, by decide +kernel, by decide +kernel⟩
def spTold (C : Addr) : Sp := fun vs H Q _ => ∃ (hd p d : Addr) (n : Nat) (S : Int) (goal : Tb) (M : Mp) (old : Tb) (dx ga ka : Addr) (kvs : List (Key × V)), vs = [.ref p] ∧ KeepAt C hd H p d n S goal M old dx ga ka kvs ∧ KOk n S goal M ∧ old.length = n ∧ ToldK C hd H p d n S goal M old Q
set_option maxHeartbeats 16000000 in
theorem cal_told (T : Blt mg) (TK : TxtK K C) (C1 : Cal P w K mg base "least_least" 8 ["land", "store", "goal"] (spLeast K)) (C2 : Cal P w K mg base "is_less" 1 ["one", "other"] spIsLess) (M1 : MCal P w K mg base C "land" 1 ["self"] (spLand C))
    (D : DfnM K C "told" "Keeper.told" sTold) : MCal P w K mg base C "told" 9 ["self"] (spTold C) := by
  obtain ⟨f, fd, F, m⟩ := D
  obtain ⟨f1, fd1, G1, m1, k1, b1⟩ := C1
  obtain ⟨f2, fd2, G2, m2, k2, b2⟩ := C2
  obtain ⟨f3, fd3, G3, m3, b3⟩ := M1
  refine ⟨f, fd, F.ok scTold (fun vs H Q E h => ?_) (fun cdv A outer s H vs Q E hr h => ?_), m, F.binds fun _ _ _ _ _ _ us hl => match us, hl with | [_], _ => rfl⟩
  · obtain ⟨hd, p, d, n, S, goal, M, old, dx, ga, ka, kvs, rfl, _⟩ := h
    rfl
  · obtain ⟨hd, p, d, n, S, goal, M, old, dx, ga, ka, kvs, rfl, I, O, hol, k⟩ := h
    have hr1 : Room 1 _ := hr.mono (by decide)
    refine ⟨_, pss_cons (ps_set (i := 1) scTold.nd rfl (.inr rfl) (pe_fld (pv 0) rfl))
      (pss_cons (ps_fld (pv 0) (pe_call G1 hr rfl m1 k1 b1 .nil pass0 (pa_cons (pe_meth0 (pv 0) TK.cl m3 G3 hr1 b3 .nil pass0) (pa_cons (pe_fld (pv 0) rfl) (pa_cons (pe_fld (pv 0) rfl) pa_nil)))) rfl)
      (pss_cons (ps_setLc (i := 2) (own := [("place", 4)]) (g := gName 4) (tt := tB (tCall spIsLess [] E0 (tCons (tOp (rIxL K) (tFld K (tVar 0) "known") (tVar 4)) (tCons (tOp (rIxL K) (tVar 1) (tVar 4)) tNil)))) (te := tVar 4) rfl scTold.nd rfl rfl (sw_true rfl rfl rfl (by decide +kernel)) (pi_range1 (by rfl) T.range (pa_cons (pe_fld (pv 0) rfl) pa_nil))
        (blkOk_by (N := nTold) (sc := defScope sTold) (by decide +kernel)) (fun _ _ _ _ _ => pg_name (i := 4) scTold.nd rfl (Or.inl rfl)) (fun _ _ _ _ _ => pts_one (pt_val (pe_call G2 hr1 rfl m2 k2 b2 .nil pass0 (pa_cons (pe_ix ix_list (pe_fld (pv 0) rfl) (pv 4) (fun _ _ => rfl)) (pa_cons (pe_ix ix_list (pv 1) (pv 4) (fun _ _ => rfl)) pa_nil))))) (fun _ _ _ _ _ => pv 4))
      (pss_cons (ps_setLc (i := 3) (own := [("place", 4)]) (g := gName 4) (tt := tB (tCall spIsLess [] E0 (tCons (tOp (rIxL K) (tVar 1) (tVar 4)) (tCons (tOp (rIxL K) (tFld K (tVar 0) "known") (tVar 4)) tNil)))) (te := tVar 4) rfl scTold.nd rfl rfl (sw_true rfl rfl rfl (by decide +kernel)) (pi_range1 (by rfl) T.range (pa_cons (pe_fld (pv 0) rfl) pa_nil))
        (blkOk_by (N := nTold) (sc := defScope sTold) (by decide +kernel)) (fun _ _ _ _ _ => pg_name (i := 4) scTold.nd rfl (Or.inl rfl)) (fun _ _ _ _ _ => pts_one (pt_val (pe_call G2 hr1 rfl m2 k2 b2 .nil pass0 (pa_cons (pe_ix ix_list (pv 1) (pv 4) (fun _ _ => rfl)) (pa_cons (pe_ix ix_list (pe_fld (pv 0) rfl) (pv 4) (fun _ _ => rfl)) pa_nil))))) (fun _ _ _ _ _ => pv 4))
      (pss_one (ps_ret (pe_tup (pa_cons (pv 2) (pa_cons (pv 3) pa_nil)))))))), ?_⟩
    have hn := O.n2
    -- old = self.known; self.known = least_least(self.land(), self.held, self.wanted)
    refine ⟨_, rfl, p, C, dx, _, _, rfl, I.ob, TK.cl, TK.nN, fK_known _ _ _ _ _, ?_⟩
    refine ⟨_, rfl, p, dx, _, rfl, I.ob, fK_no _ _ _ _ _ _, p, dx, d, _, n, M, kvs, rfl, I.ob, fK_places _ _ _ _ _, fK_kept _ _ _ _ _, I.di, O.srt, by have := O.ml; omega, fun H1 l wl las s1 L1 => ?_⟩
    have o1 := s1 _ _ I.ob
    refine ⟨_, rfl, p, C, dx, _, _, rfl, o1, TK.cl, TK.nH, fK_held _ _ _ _ _, _, rfl, p, C, dx, _, _, rfl, o1, TK.cl, TK.nW, fK_wanted _ _ _ _ _, ?_⟩
    refine ⟨l, wl, ga, las, n, S, wsM M, goal, rfl, L1, SqL.of (s1 _ _ I.go), O.gl, O.wk, O.ck, by unfold wsM; rw [List.length_map]; have := O.ml; omega, O.s1, O.gb, O.n1, by omega, fun H2 q known s2 hq e2 hk => ?_⟩
    have s12 := s1.trans s2
    have o2 := s12 _ _ I.ob
    refine ⟨_, rfl, p, C, dx, _, rfl, o2, TK.cl, TK.nN, fK_len _ _ _ _ _, ?_⟩
    rw [show putF "known" (V.ref q) (fK (.int (n : Int)) (.int S) (.ref ga) (.ref d) (.ref ka)) = fK (.int (n : Int)) (.int S) (.ref ga) (.ref d) (.ref q) from fK_set_known _ _ _ _ _ _]
    have hq0 : H q = none := s1.free hq
    obtain ⟨hxs, hhd⟩ := I.hl
    have nqh : q ≠ hd := fun e => by rw [e, hhd] at hq0; cases hq0
    have K3 : Keep [p, d] H (upd H2 p (.ins C dx (fK (.int (n : Int)) (.int S) (.ref ga) (.ref d) (.ref q)))) := (Same.keep s12).of.trans (Keep.put (by simp) o2 (fun xs z => by cases z))
    have kl : ∀ b xs, H2 b = some (.lst xs) → (upd H2 p (.ins C dx (fK (.int (n : Int)) (.int S) (.ref ga) (.ref d) (.ref q)))) b = some (.lst xs) := fun b xs e => by rw [upd_ne (ne_of e o2 (by intro z; cases z))]; exact e
    have hkl : known.length = n := hk.len
    have I3 : KeepAt C hd (upd H2 p (.ins C dx (fK (.int (n : Int)) (.int S) (.ref ga) (.ref d) (.ref q)))) p d n S goal M known dx ga q kvs := by
      refine ⟨upd_same, kl _ _ (s12 _ _ I.go), (I.di.same s12).keep (ds := [p]) (Keep.put (by simp) o2 (fun xs z => by cases z)) ?_, kl _ _ e2, ⟨_, kl _ _ (s12 _ _ hhd)⟩, I.n1, nqh⟩
      intro hm
      have := (I.di.same s12).ob
      rw [List.mem_singleton.mp hm, o2] at this
      cases this
    have eo : (upd H2 p (.ins C dx (fK (.int (n : Int)) (.int S) (.ref ga) (.ref d) (.ref q)))) ka = some (.lst (tv old)) := kl _ _ (s12 _ _ I.kn)
    generalize upd H2 p (.ins C dx (fK (.int (n : Int)) (.int S) (.ref ga) (.ref d) (.ref q))) = H3 at K3 I3 eo ⊢
    -- fell
    refine ⟨_, rfl, p, C, dx, _, _, rfl, I3.ob, TK.cl, TK.nP, fK_places _ _ _ _ _, n, rfl, by omega, by omega, fun fa hfa => ?_⟩
    have en : ((n : Int)).toNat = n := by omega
    rw [en]
    refine lc_range (lo := 0) (n := n) (fun i H4 => Same H3 H4 ∧ H4 fa = some (.lst (iv ((List.range i).filter fun p => lessB (g known p) (g old p))))) ⟨Same.new hfa, upd_same⟩ ?_ ?_
    · rintro i H4 hi ⟨s4, h4⟩
      refine ⟨rfl, _, rfl, p, C, dx, _, _, rfl, s4 _ _ I3.ob, TK.cl, TK.nN, fK_known _ _ _ _ _, _, rfl, q, _, _, _, rfl, rfl, SqL.of (s4 _ _ I3.kn), at_of (j := i) (by omega) (tv_at (by omega)), _, rfl, _, rfl, ka, _, _, _, rfl, rfl, SqL.of (s4 _ _ eo), at_of (j := i) (by omega) (tv_at (by omega)), ?_⟩
      refine ⟨_, _, rfl, _, rfl, ?_⟩
      cases hb : lessB (g known i) (g old i) with
      | true =>
        refine iteT ⟨_, rfl, _, h4, small1000 ?_, s4.mut hfa, ?_⟩
        · rw [iv_len]
          have := List.length_filter_le (fun p => lessB (g known p) (g old p)) (List.range i)
          rw [List.length_range] at this
          omega
        · rw [upd_same, List.range_succ, List.filter_append]
          unfold iv
          rw [List.map_append]
          simp [hb]
      | false =>
        refine iteF ⟨s4, ?_⟩
        rw [h4, List.range_succ, List.filter_append]
        unfold iv
        rw [List.map_append]
        simp [hb]
    rintro H4 ⟨s4, h4⟩
    have I4 := I3.same s4
    have eo4 := s4 _ _ eo
    -- rose
    refine ⟨_, rfl, p, C, dx, _, _, rfl, I4.ob, TK.cl, TK.nP, fK_places _ _ _ _ _, n, rfl, by omega, by omega, fun ra hra => ?_⟩
    rw [en]
    refine lc_range (lo := 0) (n := n) (fun i H5 => Same H4 H5 ∧ H5 ra = some (.lst (iv ((List.range i).filter fun p => lessB (g old p) (g known p))))) ⟨Same.new hra, upd_same⟩ ?_ ?_
    · rintro i H5 hi ⟨s5, h5⟩
      refine ⟨rfl, _, rfl, _, rfl, ka, _, _, _, rfl, rfl, SqL.of (s5 _ _ eo4), at_of (j := i) (by omega) (tv_at (by omega)), _, rfl, p, C, dx, _, _, rfl, s5 _ _ I4.ob, TK.cl, TK.nN, fK_known _ _ _ _ _, _, rfl, q, _, _, _, rfl, rfl, SqL.of (s5 _ _ I4.kn), at_of (j := i) (by omega) (tv_at (by omega)), ?_⟩
      refine ⟨_, _, rfl, _, rfl, ?_⟩
      cases hb : lessB (g old i) (g known i) with
      | true =>
        refine iteT ⟨_, rfl, _, h5, small1000 ?_, s5.mut hra, ?_⟩
        · rw [iv_len]
          have := List.length_filter_le (fun p => lessB (g old p) (g known p)) (List.range i)
          rw [List.length_range] at this
          omega
        · rw [upd_same, List.range_succ, List.filter_append]
          unfold iv
          rw [List.map_append]
          simp [hb]
      | false =>
        refine iteF ⟨s5, ?_⟩
        rw [h5, List.range_succ, List.filter_append]
        unfold iv
        rw [List.map_append]
        simp [hb]
    rintro H5 ⟨s5, h5⟩
    refine ⟨_, rfl, _, rfl, (by show 2 ≤ sizeLine; decide), fun tp htp => ?_⟩
    have s6 : Same H5 (upd H5 tp (.tup [.ref fa, .ref ra])) := Same.new htp
    have s36 := (s4.trans s5).trans s6
    exact k _ known fa ra tp (K3.trans (Same.keep s36).of) ⟨_, _, _, _, I3.same s36⟩ hk upd_same (s6 _ _ (s5 _ _ h4)) (s6 _ _ h5)
end
end Tr


set_option Elab.async false
set_option linter.all false
set_option maxRecDepth 100000
set_option maxHeartbeats 4000000
/-! class Keeper: the deeds -/
namespace Tr
open PySem PySem.Spec PyProof.Rows L2
section
variable {P : Program} {w : World} {K : PySem.W.Frag} {mg : Str → Option Value} {base : Heap} {C : Addr}

abbrev sIsPlace : Stmt := inClass (top 44) 1
theorem scIsPlace : FnScope ["self", "thing"] ["self", "thing"] (defScope sIsPlace) := ⟨rfl, rfl, rfl, by decide +kernel, rfl, by decide +kernel, by decide +kernel⟩
def spIsPlace (C : Addr) : Sp := fun vs H Q _ => ∃ (p dx : Addr) (fs : List (Str × V)) (n : Nat) (x : Nat), vs = [.ref p, .int (x : Int)] ∧ H p = some (.ins C dx fs) ∧ fs.lookup ("places" : Str) = some (.int (n : Int)) ∧ x < n ∧ Q (.bl true) H
theorem cal_isPlace (TK : TxtK K C) (C1 : Cal P w K mg base "is_whole" 1 ["thing"] spWhole) (D : DfnM K C "is_place" "Keeper.is_place" sIsPlace) : MCal P w K mg base C "is_place" 2 ["self", "thing"] (spIsPlace C) := by
  obtain ⟨f, fd, F, m⟩ := D
  obtain ⟨f1, fd1, G1, m1, k1, b1⟩ := C1
  refine ⟨f, fd, F.ok scIsPlace (fun vs H Q E h => ?_) (fun cdv A outer s H vs Q E hr h => ?_), m, F.binds fun _ _ _ _ _ _ us hl => match us, hl with | [_, _], _ => rfl⟩
  · obtain ⟨p, dx, fs, n, x, rfl, _⟩ := h
    rfl
  · obtain ⟨p, dx, fs, n, x, rfl, hp, hl, hx, k⟩ := h
    refine ⟨_, pss_one (ps_ret (pe_and (pe_call G1 hr rfl m1 k1 b1 .nil pass0 (pa_cons (pv 1) pa_nil)) (pe_one (pe_chain op_le op_lt pe_int (pv 1) (pe_fld (pv 0) rfl))))), ?_⟩
    refine ⟨_, rfl, _, rfl, _, rfl, iteT ?_⟩
    refine ⟨_, rfl, _, _, rfl, rfl, _, rfl, iteY (by omega) ?_⟩
    refine ⟨_, rfl, p, C, dx, _, _, rfl, hp, TK.cl, TK.nP, hl, _, _, rfl, rfl, ?_⟩
    show Q (.bl (decide ((x : Int) < (n : Int)))) H
    rw [decide_eq_true (by omega)]
    exact k

abbrev sCheck : Stmt := inClass (top 44) 3
theorem scCheck : FnScope ["self", "label"] ["self", "label"] (defScope sCheck) := ⟨rfl, rfl, rfl, by decide +kernel, rfl, by decide +kernel, by decide +kernel⟩
def spCheck (C : Addr) : Sp := fun vs H Q _ => ∃ (p dx d : Addr) (fs : List (Str × V)) (M : Mp) (kvs : List (Key × V)) (l : Int) (v : W3), vs = [.ref p, .int l] ∧ H p = some (.ins C dx fs) ∧ fs.lookup ("kept" : Str) = some (.ref d) ∧ DictAt H d M kvs ∧ lk M l = some v ∧ 1 ≤ l ∧ l ≤ 1000000000000000000 ∧ Q .non H
theorem cal_check (TK : TxtK K C) (C1 : Cal P w K mg base "is_label" 2 ["thing"] spIsLabel) (D : DfnM K C "check_in" "Keeper.check_in" sCheck) : MCal P w K mg base C "check_in" 3 ["self", "label"] (spCheck C) := by
  obtain ⟨f, fd, F, m⟩ := D
  obtain ⟨f1, fd1, G1, m1, k1, b1⟩ := C1
  refine ⟨f, fd, F.ok scCheck (fun vs H Q E h => ?_) (fun cdv A outer s H vs Q E hr h => ?_), m, F.binds fun _ _ _ _ _ _ us hl => match us, hl with | [_, _], _ => rfl⟩
  · obtain ⟨p, dx, d, fs, M, kvs, l, v, rfl, _⟩ := h
    rfl
  · obtain ⟨p, dx, d, fs, M, kvs, l, v, rfl, hp, hl, DA, hv, h1, h2, k⟩ := h
    have hu := hu_of hr
    obtain ⟨a, e1, e2⟩ := DA.yes l v hv
    refine ⟨_, pss_one (ps_if (PW.pt (pw_or (pt_not (pt_val (pe_call G1 hr rfl m1 k1 b1 .nil pass0 (pa_cons (pv 1) pa_nil)))) (pw_or1 (pt_cmp (pc_dnotin hu (pv 1) (pe_fld (pv 0) rfl)))))) (pss_one ps_never) pss_nil), ?_⟩
    refine ⟨_, rfl, l, rfl, h1, h2, _, rfl, iteF ?_⟩
    refine ⟨_, rfl, _, rfl, p, C, dx, _, _, rfl, hp, TK.cl, TK.nK, hl, d, _, rfl, DGet.k (k := Sum.inl l) DA.ob, _, rfl, ?_⟩
    rw [e1]
    exact k

/-- the body's end: told behind a deed -/
abbrev sLay : Stmt := inClass (top 44) 4
abbrev nLay : List Str := ["self", "label", "start", "end", "change"]
theorem scLay : FnScope nLay nLay (defScope sLay) := ⟨rfl, rfl, rfl, by decide +kernel, rfl, by decide +kernel, by decide +kernel⟩
def spLay (C : Addr) : Sp := fun vs H Q _ => ∃ (hd p d : Addr) (n : Nat) (S : Int) (goal : Tb) (M : Mp) (old : Tb) (l : Int) (s e : Nat) (c : Int), vs = [.ref p, .int l, .int (s : Int), .int (e : Int), .int c] ∧ KA C hd H p d n S goal M old ∧ KOk n S goal M ∧ old.length = n ∧ lk M l = none ∧ M.length ≤ 8 ∧
  1 ≤ l ∧ l ≤ 1000000000000000000 ∧ s < n ∧ e < n ∧ -1000000000000000000 ≤ c ∧ c ≤ 1000000000000000000 ∧ ToldK C hd H p d n S goal (insM l (s, e, c) M) old Q
theorem Keep2.tup {ds : List Addr} {H : Hp} {t : Addr} {xs : List V} (h : H t = none) : Keep ds H (upd H t (.tup xs)) := Keep.new h
theorem KeepAt.put {C hd : Addr} {H : Hp} {p d : Addr} {n : Nat} {S : Int} {goal : Tb} {M : Mp} {known : Tb} {dx ga ka : Addr} {kvs : List (Key × V)} (I : KeepAt C hd H p d n S goal M known dx ga ka kvs) {M' : Mp} {kvs' : List (Key × V)} (D : DictAt (upd H d (.dK kvs')) d M' kvs') :
    KeepAt C hd (upd H d (.dK kvs')) p d n S goal M' known dx ga ka kvs' := by
  have kl : ∀ b xs, H b = some (.lst xs) → (upd H d (.dK kvs')) b = some (.lst xs) := fun b xs e => by rw [upd_ne (ne_of e I.di.ob (by intro z; cases z))]; exact e
  obtain ⟨xs, e⟩ := I.hl
  exact ⟨by rw [upd_ne (ne_of I.ob I.di.ob (by intro z; cases z))]; exact I.ob, kl _ _ I.go, D, kl _ _ I.kn, ⟨_, kl _ _ e⟩, I.n1, I.n2⟩
theorem ToldK.after {C hd : Addr} {H H' : Hp} {p d : Addr} {n : Nat} {S : Int} {goal : Tb} {M : Mp} {old : Tb} {Q : VK} (h : ToldK C hd H p d n S goal M old Q) (k : Keep [p, d] H H') : ToldK C hd H' p d n S goal M old Q :=
  fun H2 known fa ra tp k2 => h H2 known fa ra tp (k.trans k2)
set_option maxHeartbeats 16000000 in
theorem cal_lay (T : Blt mg) (TK : TxtK K C) (G : Glb mg) (C1 : Cal P w K mg base "is_label" 2 ["thing"] spIsLabel) (C2 : Cal P w K mg base "is_change" 2 ["thing"] spIsChange) (M1 : MCal P w K mg base C "is_place" 2 ["self", "thing"] (spIsPlace C)) (M2 : MCal P w K mg base C "told" 9 ["self"] (spTold C))
    (D : DfnM K C "lay" "Keeper.lay" sLay) : MCal P w K mg base C "lay" 10 nLay (spLay C) := by
  obtain ⟨f, fd, F, m⟩ := D
  obtain ⟨f1, fd1, G1, m1, k1, b1⟩ := C1
  obtain ⟨f2, fd2, G2, m2, k2, b2⟩ := C2
  obtain ⟨f3, fd3, G3, m3, b3⟩ := M1
  obtain ⟨f4, fd4, G4, m4, b4⟩ := M2
  obtain ⟨tW, hW⟩ := G.ways
  refine ⟨f, fd, F.ok scLay (fun vs H Q E h => ?_) (fun cdv A outer s H vs Q E hr h => ?_), m, F.binds fun _ _ _ _ _ _ us hl => match us, hl with | [_, _, _, _, _], _ => rfl⟩
  · obtain ⟨hd, p, d, n, S, goal, M, old, l, s, e, c, rfl, _⟩ := h
    rfl
  · obtain ⟨hd, p, d, n, S, goal, M, old, l, st, e, c, rfl, ⟨dx, ga, ka, kvs, I⟩, O, hol, hno, hml, hl1, hl2, hst, he, hc1, hc2, k⟩ := h
    have hu := hu_of hr
    have hr2 : Room 2 _ := hr.mono (by decide)
    refine ⟨_, pss_cons (ps_if (pt_not (pt_val (pe_call G1 hr2 rfl m1 k1 b1 .nil pass0 (pa_cons (pv 1) pa_nil)))) (pss_one ps_never) pss_nil)
      (pss_cons (ps_if (pt_cmp (pc_din hu (pv 1) (pe_fld (pv 0) rfl))) (pss_one ps_never) pss_nil)
      (pss_cons (ps_if (PW.pt (pw_or (pt_not (pt_val (pe_meth (pv 0) TK.cl m3 G3 hr2 b3 .nil pass0 (pa_cons (pv 2) pa_nil)))) (pw_or (pt_not (pt_val (pe_meth (pv 0) TK.cl m3 G3 hr2 b3 .nil pass0 (pa_cons (pv 3) pa_nil)))) (pw_or1 (pt_not (pt_val (pe_call G2 hr2 rfl m2 k2 b2 .nil pass0 (pa_cons (pv 4) pa_nil)))))))) (pss_one ps_never) pss_nil)
      (pss_cons (ps_if (pt_cmpR op_ge (pe_callB call_lenD (by rfl) T.len PySem.boot_len (pa_cons (pe_fld (pv 0) rfl) pa_nil)) (pe_glob (v := .int 40) rfl hW ⟨_, rfl⟩) (nomark _)) (pss_one ps_never) pss_nil)
      (pss_cons (ps_dput hu (pe_fld (pv 0) rfl) (pv 1) (pe_tup (pa_cons (pv 2) (pa_cons (pv 3) (pa_cons (pv 4) pa_nil)))) rfl)
      (pss_one (ps_ret (pe_meth0 (pv 0) TK.cl m4 G4 hr b4 .nil pass0))))))), ?_⟩
    refine ⟨_, rfl, l, rfl, hl1, hl2, _, rfl, iteF ?_⟩
    refine ⟨_, rfl, _, rfl, p, C, dx, _, _, rfl, I.ob, TK.cl, TK.nK, fK_kept _ _ _ _ _, d, _, rfl, DGet.k (k := Sum.inl l) I.di.ob, _, rfl, ?_⟩
    rw [I.di.no l hno]
    refine iteF ?_
    refine ⟨_, rfl, p, dx, _, rfl, I.ob, fK_no _ _ _ _ _ _, _, rfl, p, dx, _, n, st, rfl, I.ob, fK_places _ _ _ _ _, hst, _, rfl, iteF ?_⟩
    refine ⟨_, rfl, p, dx, _, rfl, I.ob, fK_no _ _ _ _ _ _, _, rfl, p, dx, _, n, e, rfl, I.ob, fK_places _ _ _ _ _, he, _, rfl, iteF ?_⟩
    refine ⟨_, rfl, c, rfl, hc1, hc2, _, rfl, iteF ?_⟩
    refine ⟨_, rfl, p, C, dx, _, _, rfl, I.ob, TK.cl, TK.nK, fK_kept _ _ _ _ _, d, kvs, rfl, I.di.ob, _, _, rfl, rfl, _, rfl, iteN (by have := I.di.len; omega) ?_⟩
    refine ⟨_, rfl, _, rfl, _, rfl, (by show 3 ≤ sizeLine; decide), fun t ht => ?_⟩
    have s1 : Same H (upd H t (.tup [.int (st : Int), .int (e : Int), .int c])) := Same.new ht
    have et : (upd H t (.tup [.int (st : Int), .int (e : Int), .int c])) t = some (.tup (wv (st, e, c))) := upd_same
    have I1 := I.same s1
    have K1 : Keep [p, d] H (upd H t (.tup [.int (st : Int), .int (e : Int), .int c])) := Keep.new ht
    generalize upd H t (.tup [.int (st : Int), .int (e : Int), .int c]) = H1 at s1 et I1 K1 ⊢
    refine ⟨_, rfl, p, C, dx, _, _, rfl, I1.ob, TK.cl, TK.nK, fK_kept _ _ _ _ _, _, rfl, d, _, rfl, DPut.k (k := Sum.inl l) I1.di.ob (small1000 (by have := I.di.len; omega)), ?_⟩
    have I2 := I1.put (I1.di.put (l := l) O.srt et)
    have O2 : KOk n S goal (insM l (st, e, c) M) := O.ins ⟨hl1, hl2⟩ hst he ⟨hc1, hc2⟩ (by have := ins_len (l := l) (w := (st, e, c)) (M := M); omega)
    have K2 : Keep [p, d] H1 (upd H1 d (.dK (putK kvs (Sum.inl l) (.ref t)))) := Keep.put (by simp) I1.di.ob (fun xs z => by cases z)
    refine ⟨_, rfl, p, dx, _, rfl, I2.ob, fK_no _ _ _ _ _ _, ?_⟩
    exact ⟨hd, p, d, n, S, goal, _, old, dx, ga, ka, _, rfl, I2, O2, hol, k.after (K1.trans K2)⟩

abbrev sLift : Stmt := inClass (top 44) 5
theorem scLift : FnScope ["self", "label"] ["self", "label"] (defScope sLift) := ⟨rfl, rfl, rfl, by decide +kernel, rfl, by decide +kernel, by decide +kernel⟩
def spLift (C : Addr) : Sp := fun vs H Q _ => ∃ (hd p d : Addr) (n : Nat) (S : Int) (goal : Tb) (M : Mp) (old : Tb) (l : Int) (v : W3), vs = [.ref p, .int l] ∧ KA C hd H p d n S goal M old ∧ KOk n S goal M ∧ old.length = n ∧ lk M l = some v ∧ ToldK C hd H p d n S goal (delM l M) old Q
theorem KOk.label {n : Nat} {S : Int} {goal : Tb} {M : Mp} (O : KOk n S goal M) {l : Int} {v : W3} (h : lk M l = some v) : 1 ≤ l ∧ l ≤ 1000000000000000000 := O.lb _ (lk_mem h)
theorem cal_lift (TK : TxtK K C) (M1 : MCal P w K mg base C "check_in" 3 ["self", "label"] (spCheck C)) (M2 : MCal P w K mg base C "told" 9 ["self"] (spTold C)) (D : DfnM K C "lift" "Keeper.lift" sLift) : MCal P w K mg base C "lift" 10 ["self", "label"] (spLift C) := by
  obtain ⟨f, fd, F, m⟩ := D
  obtain ⟨f3, fd3, G3, m3, b3⟩ := M1
  obtain ⟨f4, fd4, G4, m4, b4⟩ := M2
  refine ⟨f, fd, F.ok scLift (fun vs H Q E h => ?_) (fun cdv A outer s H vs Q E hr h => ?_), m, F.binds fun _ _ _ _ _ _ us hl => match us, hl with | [_, _], _ => rfl⟩
  · obtain ⟨hd, p, d, n, S, goal, M, old, l, v, rfl, _⟩ := h
    rfl
  · obtain ⟨hd, p, d, n, S, goal, M, old, l, v, rfl, ⟨dx, ga, ka, kvs, I⟩, O, hol, hv, k⟩ := h
    have hr3 : Room 3 _ := hr.mono (by decide)
    obtain ⟨h1, h2⟩ := O.label hv
    obtain ⟨a, e1, e2⟩ := I.di.yes l v hv
    refine ⟨_, pss_cons (ps_expr (pe_meth (pv 0) TK.cl m3 G3 hr3 b3 .nil pass0 (pa_cons (pv 1) pa_nil)))
      (pss_cons (ps_expr (pe_dpop1 (pe_fld (pv 0) rfl) (pv 1) ⟨rfl, rfl, rfl, rfl⟩))
      (pss_one (ps_ret (pe_meth0 (pv 0) TK.cl m4 G4 hr b4 .nil pass0)))), ?_⟩
    refine ⟨_, rfl, p, dx, _, rfl, I.ob, fK_no _ _ _ _ _ _, _, rfl, p, dx, d, _, M, kvs, l, v, rfl, I.ob, fK_kept _ _ _ _ _, I.di, hv, h1, h2, ?_⟩
    refine ⟨_, rfl, p, C, dx, _, _, rfl, I.ob, TK.cl, TK.nK, fK_kept _ _ _ _ _, d, rfl, .inl ⟨_, .inl I.di.ob⟩, _, rfl, kvs, Sum.inl l, _, I.di.ob, rfl, e1, ?_⟩
    have I2 := I.put (I.di.drop O.srt hv)
    have K2 : Keep [p, d] H (upd H d (.dK (dropK kvs (Sum.inl l)))) := Keep.put (by simp) I.di.ob (fun xs z => by cases z)
    refine ⟨_, rfl, p, dx, _, rfl, I2.ob, fK_no _ _ _ _ _ _, ?_⟩
    exact ⟨hd, p, d, n, S, goal, _, old, dx, ga, ka, _, rfl, I2, O.del, hol, k.after K2⟩

abbrev sTurn : Stmt := inClass (top 44) 6
abbrev nTurn : List Str := ["self", "label", "change", "start", "end", "old"]
theorem scTurn : FnScope nTurn ["self", "label", "change"] (defScope sTurn) := ⟨rfl, rfl, rfl, by decide +kernel, rfl, by decide +kernel, by decide +kernel⟩
def spTurn (C : Addr) : Sp := fun vs H Q _ => ∃ (hd p d : Addr) (n : Nat) (S : Int) (goal : Tb) (M : Mp) (old : Tb) (l : Int) (v : W3) (c : Int), vs = [.ref p, .int l, .int c] ∧ KA C hd H p d n S goal M old ∧ KOk n S goal M ∧ old.length = n ∧ lk M l = some v ∧
  -1000000000000000000 ≤ c ∧ c ≤ 1000000000000000000 ∧ ToldK C hd H p d n S goal (insM l (v.1, v.2.1, c) M) old Q
set_option maxHeartbeats 16000000 in
theorem cal_turn (TK : TxtK K C) (C2 : Cal P w K mg base "is_change" 2 ["thing"] spIsChange) (M1 : MCal P w K mg base C "check_in" 3 ["self", "label"] (spCheck C)) (M2 : MCal P w K mg base C "told" 9 ["self"] (spTold C)) (D : DfnM K C "turn" "Keeper.turn" sTurn) : MCal P w K mg base C "turn" 10 ["self", "label", "change"] (spTurn C) := by
  obtain ⟨f, fd, F, m⟩ := D
  obtain ⟨f2, fd2, G2, m2, k2, b2⟩ := C2
  obtain ⟨f3, fd3, G3, m3, b3⟩ := M1
  obtain ⟨f4, fd4, G4, m4, b4⟩ := M2
  refine ⟨f, fd, F.ok scTurn (fun vs H Q E h => ?_) (fun cdv A outer s H vs Q E hr h => ?_), m, F.binds fun _ _ _ _ _ _ us hl => match us, hl with | [_, _, _], _ => rfl⟩
  · obtain ⟨hd, p, d, n, S, goal, M, old, l, v, c, rfl, _⟩ := h
    rfl
  · obtain ⟨hd, p, d, n, S, goal, M, old, l, v, c, rfl, ⟨dx, ga, ka, kvs, I⟩, O, hol, hv, hc1, hc2, k⟩ := h
    have hu := hu_of hr
    have hr3 : Room 3 _ := hr.mono (by decide)
    have hr2 : Room 2 _ := hr.mono (by decide)
    obtain ⟨h1, h2⟩ := O.label hv
    obtain ⟨a, e1, e2⟩ := I.di.yes l v hv
    refine ⟨_, pss_cons (ps_expr (pe_meth (pv 0) TK.cl m3 G3 hr3 b3 .nil pass0 (pa_cons (pv 1) pa_nil)))
      (pss_cons (ps_if (pt_not (pt_val (pe_call G2 hr2 rfl m2 k2 b2 .nil pass0 (pa_cons (pv 2) pa_nil)))) (pss_one ps_never) pss_nil)
      (pss_cons (ps_asg (pe_dget hu (pe_fld (pv 0) rfl) (pv 1) (fun _ _ => rfl)) (pg_tup rfl (pgs_cons (pg_name (i := 3) scTurn.nd rfl (Or.inl rfl)) (pgs_cons (pg_name (i := 4) scTurn.nd rfl (Or.inl rfl)) (pgs_cons (pg_name (i := 5) scTurn.nd rfl (Or.inl rfl)) pgs_nil)))))
      (pss_cons (ps_dput hu (pe_fld (pv 0) rfl) (pv 1) (pe_tup (pa_cons (pv 3) (pa_cons (pv 4) (pa_cons (pv 2) pa_nil)))) rfl)
      (pss_one (ps_ret (pe_meth0 (pv 0) TK.cl m4 G4 hr b4 .nil pass0)))))), ?_⟩
    refine ⟨_, rfl, p, dx, _, rfl, I.ob, fK_no _ _ _ _ _ _, _, rfl, p, dx, d, _, M, kvs, l, v, rfl, I.ob, fK_kept _ _ _ _ _, I.di, hv, h1, h2, ?_⟩
    refine ⟨_, rfl, c, rfl, hc1, hc2, _, rfl, iteF ?_⟩
    refine ⟨_, rfl, p, C, dx, _, _, rfl, I.ob, TK.cl, TK.nK, fK_kept _ _ _ _ _, _, rfl, d, .ref a, rfl, by rw [← e1]; exact DGet.k (k := Sum.inl l) I.di.ob, a, _, rfl, SqT.of e2, rfl, _, _, rfl, _, _, rfl, _, _, rfl, rfl, ?_⟩
    refine ⟨_, rfl, _, rfl, _, rfl, (by show 3 ≤ sizeLine; decide), fun t ht => ?_⟩
    have s1 : Same H (upd H t (.tup [.int (v.1 : Int), .int (v.2.1 : Int), .int c])) := Same.new ht
    have et : (upd H t (.tup [.int (v.1 : Int), .int (v.2.1 : Int), .int c])) t = some (.tup (wv (v.1, v.2.1, c))) := upd_same
    have I1 := I.same s1
    have K1 : Keep [p, d] H (upd H t (.tup [.int (v.1 : Int), .int (v.2.1 : Int), .int c])) := Keep.new ht
    generalize upd H t (.tup [.int (v.1 : Int), .int (v.2.1 : Int), .int c]) = H1 at s1 et I1 K1 ⊢
    refine ⟨_, rfl, p, C, dx, _, _, rfl, I1.ob, TK.cl, TK.nK, fK_kept _ _ _ _ _, _, rfl, d, _, rfl, DPut.k (k := Sum.inl l) I1.di.ob (small1000 (by have := I.di.len; have := O.ml; omega)), ?_⟩
    have I2 := I1.put (I1.di.put (l := l) O.srt et)
    have hlm : l ∈ M.map (·.1) := Classical.byContradiction fun hn => by rw [lk_none.mpr hn] at hv; cases hv
    have hvm := O.wk v (List.mem_map.mpr ⟨_, lk_mem hv, rfl⟩)
    have O2 : KOk n S goal (insM l (v.1, v.2.1, c) M) := O.ins ⟨h1, h2⟩ hvm.1 hvm.2 ⟨hc1, hc2⟩ (by rw [ins_len_old O.srt hlm]; exact O.ml)
    have K2 : Keep [p, d] H1 (upd H1 d (.dK (putK kvs (Sum.inl l) (.ref t)))) := Keep.put (by simp) I1.di.ob (fun xs z => by cases z)
    refine ⟨_, rfl, p, dx, _, rfl, I2.ob, fK_no _ _ _ _ _ _, ?_⟩
    exact ⟨hd, p, d, n, S, goal, _, old, dx, ga, ka, _, rfl, I2, O2, hol, k.after (K1.trans K2)⟩

abbrev sRefill : Stmt := inClass (top 44) 7
theorem scRefill : FnScope ["self", "store", "level"] ["self", "store"] (defScope sRefill) := ⟨rfl, rfl, rfl, by decide +kernel, rfl, by decide +kernel, by decide +kernel⟩
def spRefill (C : Addr) : Sp := fun vs H Q _ => ∃ (hd p d : Addr) (n : Nat) (S S' : Int) (goal : Tb) (M : Mp) (old : Tb), vs = [.ref p, .int S'] ∧ KA C hd H p d n S goal M old ∧ KOk n S' goal M ∧ old.length = n ∧ ToldK C hd H p d n S' goal M old Q
set_option maxHeartbeats 16000000 in
theorem cal_refill (T : Blt mg) (TK : TxtK K C) (G : Glb mg) (C1 : Cal P w K mg base "is_whole" 1 ["thing"] spWhole) (M2 : MCal P w K mg base C "told" 9 ["self"] (spTold C)) (D : DfnM K C "refill" "Keeper.refill" sRefill) : MCal P w K mg base C "refill" 10 ["self", "store"] (spRefill C) := by
  obtain ⟨f, fd, F, m⟩ := D
  obtain ⟨f1, fd1, G1, m1, k1, b1⟩ := C1
  obtain ⟨f4, fd4, G4, m4, b4⟩ := M2
  obtain ⟨tS, hSt⟩ := G.store
  refine ⟨f, fd, F.ok scRefill (fun vs H Q E h => ?_) (fun cdv A outer s H vs Q E hr h => ?_), m, F.binds fun _ _ _ _ _ _ us hl => match us, hl with | [_, _], _ => rfl⟩
  · obtain ⟨hd, p, d, n, S, S', goal, M, old, rfl, _⟩ := h
    rfl
  · obtain ⟨hd, p, d, n, S, S', goal, M, old, rfl, ⟨dx, ga, ka, kvs, I⟩, O, hol, k⟩ := h
    have hr1 : Room 1 _ := hr.mono (by decide)
    refine ⟨_, pss_cons (ps_if (PW.pt (pw_or (pt_not (pt_val (pe_call G1 hr1 rfl m1 k1 b1 .nil pass0 (pa_cons (pv 1) pa_nil)))) (pw_or1 (pt_not (pt_chain op_le op_le pe_int (pv 1) (pe_glob (v := .int 100000000000000000000) rfl hSt ⟨_, rfl⟩)))))) (pss_one ps_never) pss_nil)
      (pss_cons (ps_if (pt_val (pe_callB (cr_any rfl) (by rfl) T.any (by decide +kernel) (pa_cons (pe_lc (own := [("level", 2)]) (g := gName 2) (tt := tYes) (te := tAndV (tOp rNotN (tVar 2) (tC .non)) (tOp (rI0 fun i j => .bl (decide (j < i))) (tVar 2) (tVar 1))) rfl scRefill.nd (pi_list (pe_fld (pv 0) rfl)) (blkOk_by (N := ["self", "store", "level"]) (sc := defScope sRefill) (by decide +kernel))
        (fun _ _ _ _ _ => pg_name (i := 2) scRefill.nd rfl (Or.inl rfl)) (fun _ _ _ _ _ => pts_nil) (fun _ _ _ _ _ => pe_and (pe_cmpR op_notN1 (pv 2) pe_non (nomark _)) (pe_one (pe_cmpR op_gt (pv 2) (pv 1) (nomark _))))) pa_nil))) (pss_one ps_never) pss_nil)
      (pss_cons (ps_fld (pv 0) (pv 1) rfl)
      (pss_one (ps_ret (pe_meth0 (pv 0) TK.cl m4 G4 hr b4 .nil pass0))))), ?_⟩
    refine ⟨_, rfl, S', rfl, _, rfl, iteF ?_⟩
    refine ⟨_, rfl, _, _, rfl, rfl, _, rfl, iteY O.s1 ⟨_, _, rfl, rfl, _, rfl, ?_⟩⟩
    refine iteNn O.s2 ?_
    -- any of the goal's levels above the store
    refine ⟨_, rfl, p, C, dx, _, _, rfl, I.ob, TK.cl, TK.nW, fK_wanted _ _ _ _ _, ga, rfl, ⟨_, SqL.of I.go⟩, fun D hD => ?_⟩
    refine lc_list (K := K) (a := ga) (xs := tv goal) (fun i H2 => Same H H2 ∧ H2 D = some (.lst ((List.replicate i false).map V.bl))) ⟨Same.new hD, upd_same⟩ (fun i H2 _ ⟨s2, _⟩ => SqL.of (s2 _ _ I.go)) ?_ ?_
    · rintro i x H2 hi ⟨s2, h2⟩
      have hi' : i < goal.length := by rw [← tv_len]; exact (List.getElem?_eq_some_iff.mp hi).1
      rw [tv_at hi'] at hi
      cases hi
      have hgl := O.gl
      have hn := O.n2
      have fin : ∃ acc, H2 D = some (.lst acc) ∧ acc.length < sizeLine ∧ (Same H (upd H2 D (.lst (acc ++ [V.bl false]))) ∧ (upd H2 D (.lst (acc ++ [V.bl false]))) D = some (.lst ((List.replicate (i + 1) false).map V.bl))) := by
        refine ⟨_, h2, small1000 (by rw [List.length_map, List.length_replicate]; omega), s2.mut hD, ?_⟩
        rw [upd_same, List.replicate_succ', List.map_append]
        rfl
      refine ⟨rfl, _, rfl, rfl, _, rfl, ?_⟩
      cases hx : g goal i with
      | none => exact iteF fin
      | some y =>
        have := O.gb i y hx
        refine iteT ⟨_, rfl, _, rfl, y, S', rfl, rfl, ?_⟩
        have e : decide (S' < y) = false := decide_eq_false (by omega)
        show ∃ acc, H2 D = some (.lst acc) ∧ acc.length < sizeLine ∧ (Same H (upd H2 D (.lst (acc ++ [V.bl (decide (S' < y))]))) ∧ (upd H2 D (.lst (acc ++ [V.bl (decide (S' < y))]))) D = some (.lst ((List.replicate (i + 1) false).map V.bl)))
        rw [e]
        exact fin
    · rintro H2 ⟨s2, h2⟩
      have e : (List.replicate (tv goal).length false).any id = false := by
        rw [List.any_eq_false]
        intro b hb
        rw [(List.mem_replicate.mp hb).2]
        simp
      refine ⟨D, _, rfl, SqL.of h2, _, rfl, ?_⟩
      rw [e]
      refine iteF ?_
      have I2 := I.same s2
      have o2 := I2.ob
      refine ⟨_, rfl, _, rfl, p, C, dx, _, rfl, o2, TK.cl, TK.nH, fK_len _ _ _ _ _, ?_⟩
      rw [show putF "held" (V.int S') (fK (.int (n : Int)) (.int S) (.ref ga) (.ref d) (.ref ka)) = fK (.int (n : Int)) (.int S') (.ref ga) (.ref d) (.ref ka) from fK_set_held _ _ _ _ _ _]
      have kp : Keep [p] H2 (upd H2 p (.ins C dx (fK (.int (n : Int)) (.int S') (.ref ga) (.ref d) (.ref ka)))) := Keep.put (by simp) o2 (fun xs z => by cases z)
      have kl : ∀ b xs, H2 b = some (.lst xs) → (upd H2 p (.ins C dx (fK (.int (n : Int)) (.int S') (.ref ga) (.ref d) (.ref ka)))) b = some (.lst xs) := fun b xs e => by rw [upd_ne (ne_of e o2 (by intro z; cases z))]; exact e
      obtain ⟨xs, hh⟩ := I2.hl
      have I3 : KeepAt C hd (upd H2 p (.ins C dx (fK (.int (n : Int)) (.int S') (.ref ga) (.ref d) (.ref ka)))) p d n S' goal M old dx ga ka kvs := by
        refine ⟨upd_same, kl _ _ I2.go, I2.di.keep kp ?_, kl _ _ I2.kn, ⟨_, kl _ _ hh⟩, I2.n1, I2.n2⟩
        intro hm
        have := I2.di.ob
        rw [List.mem_singleton.mp hm, o2] at this
        cases this
      refine ⟨_, rfl, p, dx, _, rfl, I3.ob, fK_no _ _ _ _ _ _, ?_⟩
      exact ⟨hd, p, d, n, S', goal, M, old, dx, ga, ka, kvs, rfl, I3, O, hol, k.after ((Same.keep s2).of.trans (kp.mono fun x hx => by rw [List.mem_singleton.mp hx]; simp))⟩

abbrev sAim : Stmt := inClass (top 44) 8
theorem scAim : FnScope ["self", "goal"] ["self", "goal"] (defScope sAim) := ⟨rfl, rfl, rfl, by decide +kernel, rfl, by decide +kernel, by decide +kernel⟩
def spAim (C : Addr) : Sp := fun vs H Q _ => ∃ (hd p d a : Addr) (n : Nat) (S : Int) (goal goal' : Tb) (M : Mp) (old : Tb), vs = [.ref p, .ref a] ∧ H a = some (.lst (tv goal')) ∧ KA C hd H p d n S goal M old ∧ KOk n S goal' M ∧ old.length = n ∧ ToldK C hd H p d n S goal' M old Q
set_option maxHeartbeats 16000000 in
theorem cal_aim (T : Blt mg) (TK : TxtK K C) (C1 : Cal P w K mg base "is_table" 3 ["land", "store", "thing"] spIsTable) (M1 : MCal P w K mg base C "land" 1 ["self"] (spLand C)) (M2 : MCal P w K mg base C "told" 9 ["self"] (spTold C)) (D : DfnM K C "aim" "Keeper.aim" sAim) : MCal P w K mg base C "aim" 10 ["self", "goal"] (spAim C) := by
  obtain ⟨f, fd, F, m⟩ := D
  obtain ⟨f1, fd1, G1, m1, k1, b1⟩ := C1
  obtain ⟨f3, fd3, G3, m3, b3⟩ := M1
  obtain ⟨f4, fd4, G4, m4, b4⟩ := M2
  refine ⟨f, fd, F.ok scAim (fun vs H Q E h => ?_) (fun cdv A outer s H vs Q E hr h => ?_), m, F.binds fun _ _ _ _ _ _ us hl => match us, hl with | [_, _], _ => rfl⟩
  · obtain ⟨hd, p, d, a, n, S, goal, goal', M, old, rfl, _⟩ := h
    rfl
  · obtain ⟨hd, p, d, a, n, S, goal, goal', M, old, rfl, ha, ⟨dx, ga, ka, kvs, I⟩, O, hol, k⟩ := h
    have hr1 : Room 1 _ := hr.mono (by decide)
    have hr3 : Room 3 _ := hr.mono (by decide)
    refine ⟨_, pss_cons (ps_if (pt_not (pt_val (pe_call G1 hr3 rfl m1 k1 b1 .nil pass0 (pa_cons (pe_meth0 (pv 0) TK.cl m3 G3 hr1 b3 .nil pass0) (pa_cons (pe_fld (pv 0) rfl) (pa_cons (pv 1) pa_nil)))))) (pss_one ps_never) pss_nil)
      (pss_cons (ps_fld (pv 0) (pe_callTy call_list_of (by rfl) T.list (by decide +kernel) (pa_cons (pv 1) pa_nil)) rfl)
      (pss_one (ps_ret (pe_meth0 (pv 0) TK.cl m4 G4 hr b4 .nil pass0)))), ?_⟩
    refine ⟨_, rfl, p, dx, _, rfl, I.ob, fK_no _ _ _ _ _ _, p, dx, d, _, n, M, kvs, rfl, I.ob, fK_places _ _ _ _ _, fK_kept _ _ _ _ _, I.di, O.srt, by have := O.ml; omega, fun H1 l wl las s1 L1 => ?_⟩
    refine ⟨_, rfl, p, C, dx, _, _, rfl, s1 _ _ I.ob, TK.cl, TK.nH, fK_held _ _ _ _ _, _, rfl, ?_⟩
    refine ⟨l, a, n, S, goal', _, rfl, L1.tu, s1 _ _ ha, O.gl, by have := O.n2; omega, O.gb, fun H2 s2 => ⟨_, rfl, iteF ?_⟩⟩
    have s12 := s1.trans s2
    have I2 := I.same s12
    refine ⟨_, rfl, a, _, rfl, .inl (SqL.of (s12 _ _ ha)), fun q hq => ?_⟩
    have s3 : Same H2 (upd H2 q (.lst (tv goal'))) := Same.new hq
    have e3 : (upd H2 q (.lst (tv goal'))) q = some (.lst (tv goal')) := upd_same
    have I3 := I2.same s3
    have hq0 : H q = none := s12.free hq
    obtain ⟨xs, hh⟩ := I3.hl
    have nqh : q ≠ hd := fun e => by
      obtain ⟨ys, hy⟩ := I.hl
      rw [e, hy] at hq0
      cases hq0
    have s13 := s12.trans s3
    generalize upd H2 q (.lst (tv goal')) = H3 at s3 e3 I3 hh s13 ⊢
    have o3 := I3.ob
    refine ⟨_, rfl, p, C, dx, _, rfl, o3, TK.cl, TK.nW, fK_len _ _ _ _ _, ?_⟩
    rw [show putF "wanted" (V.ref q) (fK (.int (n : Int)) (.int S) (.ref ga) (.ref d) (.ref ka)) = fK (.int (n : Int)) (.int S) (.ref q) (.ref d) (.ref ka) from fK_set_wanted _ _ _ _ _ _]
    have kp : Keep [p] H3 (upd H3 p (.ins C dx (fK (.int (n : Int)) (.int S) (.ref q) (.ref d) (.ref ka)))) := Keep.put (by simp) o3 (fun xs z => by cases z)
    have kl : ∀ b xs, H3 b = some (.lst xs) → (upd H3 p (.ins C dx (fK (.int (n : Int)) (.int S) (.ref q) (.ref d) (.ref ka)))) b = some (.lst xs) := fun b xs e => by rw [upd_ne (ne_of e o3 (by intro z; cases z))]; exact e
    have I4 : KeepAt C hd (upd H3 p (.ins C dx (fK (.int (n : Int)) (.int S) (.ref q) (.ref d) (.ref ka)))) p d n S goal' M old dx q ka kvs := by
      refine ⟨upd_same, kl _ _ e3, I3.di.keep kp ?_, kl _ _ I3.kn, ⟨_, kl _ _ hh⟩, nqh, I3.n2⟩
      intro hm
      have := I3.di.ob
      rw [List.mem_singleton.mp hm, o3] at this
      cases this
    refine ⟨_, rfl, p, dx, _, rfl, I4.ob, fK_no _ _ _ _ _ _, ?_⟩
    exact ⟨hd, p, d, n, S, goal', M, old, dx, q, ka, kvs, rfl, I4, O, hol, k.after ((Same.keep s13).of.trans (kp.mono fun x hx => by rw [List.mem_singleton.mp hx]; simp))⟩

abbrev sKI : Stmt := inClass (top 44) 0
abbrev nKI : List Str := ["self", "many", "store", "goal"]
theorem scKI : FnScope nKI nKI (defScope sKI) := ⟨rfl, rfl, rfl, by decide +kernel, rfl, by decide +kernel, by decide +kernel⟩
def spKI (C : Addr) : Sp := fun vs H Q _ => ∃ (hd p dx a : Addr) (n : Nat) (S : Int) (goal : Tb), vs = [.ref p, .int (n : Int), .int S, .ref a] ∧ H p = some (.ins C dx []) ∧ H a = some (.lst (tv goal)) ∧ (∃ xs, H hd = some (.lst xs)) ∧ KOk n S goal [] ∧
  ∀ H' d known, (∀ b o, H b = some o → b ≠ p → H' b = some o) → H d = none → KA C hd H' p d n S goal [] known → IsLeast n S [] goal known → Q .non H'
set_option maxHeartbeats 16000000 in
theorem cal_KI (T : Blt mg) (TK : TxtK K C) (C1 : Cal P w K mg base "least_least" 8 ["land", "store", "goal"] (spLeast K)) (M1 : MCal P w K mg base C "land" 1 ["self"] (spLand C)) (D : DfnI K mg C "Keeper" "Keeper.__init__" sKI) : ICal P w K mg base C "Keeper" 9 nKI (spKI C) := by
  obtain ⟨f, fd, F, m, mc⟩ := D
  obtain ⟨f1, fd1, G1, m1, k1, b1⟩ := C1
  obtain ⟨f3, fd3, G3, m3, b3⟩ := M1
  refine ⟨f, fd, F.ok scKI (fun vs H Q E h => ?_) (fun cdv A outer s H vs Q E hr h => ?_), m, mc, F.binds fun _ _ _ _ _ _ us hl => match us, hl with | [_, _, _, _], _ => rfl⟩
  · obtain ⟨hd, p, dx, a, n, S, goal, rfl, _⟩ := h
    rfl
  · obtain ⟨hd, p, dx, a, n, S, goal, rfl, hp, ha, ⟨xh, hh⟩, O, k⟩ := h
    have hr1 : Room 1 _ := hr.mono (by decide)
    refine ⟨_, pss_cons (ps_fld (pv 0) (pv 1) rfl)
      (pss_cons (ps_fld (pv 0) (pv 2) rfl)
      (pss_cons (ps_fld (pv 0) (pe_callTy call_list_of (by rfl) T.list (by decide +kernel) (pa_cons (pv 3) pa_nil)) rfl)
      (pss_cons (ps_fld (pv 0) pe_dnewK rfl)
      (pss_one (ps_fld (pv 0) (pe_call G1 hr rfl m1 k1 b1 .nil pass0 (pa_cons (pe_meth0 (pv 0) TK.cl m3 G3 hr1 b3 .nil pass0) (pa_cons (pv 2) (pa_cons (pe_fld (pv 0) rfl) pa_nil)))) rfl))))), ?_⟩
    have hpi : ∃ C dx fs, H p = some (.ins C dx fs) := ⟨_, _, _, hp⟩
    refine ⟨_, rfl, _, rfl, p, C, dx, _, rfl, hp, TK.cl, TK.nP, (by show 0 < 1000; decide), ?_⟩
    refine ⟨_, rfl, _, rfl, p, C, dx, _, rfl, upd_same, TK.cl, TK.nH, (by show 1 < 1000; decide), ?_⟩
    rw [upd_upd]
    have s1 : SB p H (upd H p (.ins C dx (putF "held" (.int S) (putF "places" (.int (n : Int)) [])))) := SB.refl.self
    have o1 : (upd H p (.ins C dx (putF "held" (.int S) (putF "places" (.int (n : Int)) [])))) p = some (.ins C dx (putF "held" (.int S) (putF "places" (.int (n : Int)) []))) := upd_same
    generalize upd H p (.ins C dx (putF "held" (.int S) (putF "places" (.int (n : Int)) []))) = H1 at s1 o1 ⊢
    have nap : a ≠ p := ne_of ha hp (by intro z; cases z)
    have nhp : hd ≠ p := ne_of hh hp (by intro z; cases z)
    refine ⟨_, rfl, a, _, rfl, .inl (SqL.of (s1 _ _ ha nap)), fun ga hga => ?_⟩
    have pga : p ≠ ga := ne_of_none o1 hga
    have hgah : ga ≠ hd := fun e => by rw [e, s1 _ _ hh nhp] at hga; cases hga
    have o2 : (upd H1 ga (.lst (tv goal))) p = some (.ins C dx (putF "held" (.int S) (putF "places" (.int (n : Int)) []))) := by rw [upd_ne pga]; exact o1
    refine ⟨_, rfl, p, C, dx, _, rfl, o2, TK.cl, TK.nW, (by show 2 < 1000; decide), ?_⟩
    have s2 : SB p H (upd (upd H1 ga (.lst (tv goal))) p (.ins C dx (putF "wanted" (.ref ga) (putF "held" (.int S) (putF "places" (.int (n : Int)) []))))) := (s1.new hga).self
    have o3 : (upd (upd H1 ga (.lst (tv goal))) p (.ins C dx (putF "wanted" (.ref ga) (putF "held" (.int S) (putF "places" (.int (n : Int)) []))))) p = some (.ins C dx (putF "wanted" (.ref ga) (putF "held" (.int S) (putF "places" (.int (n : Int)) [])))) := upd_same
    have e3 : (upd (upd H1 ga (.lst (tv goal))) p (.ins C dx (putF "wanted" (.ref ga) (putF "held" (.int S) (putF "places" (.int (n : Int)) []))))) ga = some (.lst (tv goal)) := by rw [upd_ne pga.symm, upd_same]
    generalize upd (upd H1 ga (.lst (tv goal))) p (.ins C dx (putF "wanted" (.ref ga) (putF "held" (.int S) (putF "places" (.int (n : Int)) [])))) = H3 at s2 o3 e3 ⊢
    intro d hd'
    have pd : p ≠ d := ne_of_none o3 hd'
    have gad : ga ≠ d := ne_of_none e3 hd'
    have hd0 : H d = none := by
      cases e : H d with
      | none => rfl
      | some o =>
        rw [s2 d o e pd.symm] at hd'
        cases hd'
    have o4 : (upd H3 d (.dK [])) p = some (.ins C dx (putF "wanted" (.ref ga) (putF "held" (.int S) (putF "places" (.int (n : Int)) [])))) := by rw [upd_ne pd]; exact o3
    refine ⟨_, rfl, p, C, dx, _, rfl, o4, TK.cl, TK.nK, (by show 3 < 1000; decide), ?_⟩
    have s5 : SB p H (upd (upd H3 d (.dK [])) p (.ins C dx (putF "kept" (.ref d) (putF "wanted" (.ref ga) (putF "held" (.int S) (putF "places" (.int (n : Int)) [])))))) := (s2.new hd').self
    have o5 : (upd (upd H3 d (.dK [])) p (.ins C dx (putF "kept" (.ref d) (putF "wanted" (.ref ga) (putF "held" (.int S) (putF "places" (.int (n : Int)) [])))))) p = some (.ins C dx (putF "kept" (.ref d) (putF "wanted" (.ref ga) (putF "held" (.int S) (putF "places" (.int (n : Int)) []))))) := upd_same
    have e5 : (upd (upd H3 d (.dK [])) p (.ins C dx (putF "kept" (.ref d) (putF "wanted" (.ref ga) (putF "held" (.int S) (putF "places" (.int (n : Int)) [])))))) ga = some (.lst (tv goal)) := by rw [upd_ne pga.symm, upd_ne gad]; exact e3
    have d5 : DictAt (upd (upd H3 d (.dK [])) p (.ins C dx (putF "kept" (.ref d) (putF "wanted" (.ref ga) (putF "held" (.int S) (putF "places" (.int (n : Int)) [])))))) d [] [] := DictAt.empty (by rw [upd_ne pd.symm, upd_same])
    generalize upd (upd H3 d (.dK [])) p (.ins C dx (putF "kept" (.ref d) (putF "wanted" (.ref ga) (putF "held" (.int S) (putF "places" (.int (n : Int)) []))))) = H5 at s5 o5 e5 d5 ⊢
    have l1 : (putF "kept" (V.ref d) (putF "wanted" (.ref ga) (putF "held" (.int S) (putF "places" (.int (n : Int)) [])))).lookup ("places" : Str) = some (.int (n : Int)) := by rw [lookup_putF, if_neg neK_places_kept, lookup_putF, if_neg neK_places_wanted, lookup_putF, if_neg neK_places_held, lookup_putF, if_pos rfl]
    have l2 : (putF "kept" (V.ref d) (putF "wanted" (.ref ga) (putF "held" (.int S) (putF "places" (.int (n : Int)) [])))).lookup ("kept" : Str) = some (.ref d) := by rw [lookup_putF, if_pos rfl]
    have l3 : (putF "kept" (V.ref d) (putF "wanted" (.ref ga) (putF "held" (.int S) (putF "places" (.int (n : Int)) [])))).lookup ("wanted" : Str) = some (.ref ga) := by rw [lookup_putF, if_neg neK_wanted_kept, lookup_putF, if_pos rfl]
    have l4 : (putF "kept" (V.ref d) (putF "wanted" (.ref ga) (putF "held" (.int S) (putF "places" (.int (n : Int)) [])))).lookup ("land" : Str) = none := by
      rw [lookup_putF, if_neg (by decide +kernel), lookup_putF, if_neg (by decide +kernel), lookup_putF, if_neg (by decide +kernel), lookup_putF, if_neg (by decide +kernel)]
      rfl
    refine ⟨_, rfl, p, dx, _, rfl, o5, l4, p, dx, d, _, n, [], [], rfl, o5, l1, l2, d5, O.srt, by decide, fun H6 l wl las s6 L6 => ?_⟩
    refine ⟨_, rfl, _, rfl, p, C, dx, _, _, rfl, s6 _ _ o5, TK.cl, TK.nW, l3, ?_⟩
    refine ⟨l, wl, ga, las, n, S, [], goal, rfl, L6, SqL.of (s6 _ _ e5), O.gl, O.wk, O.ck, by decide, O.s1, O.gb, O.n1, by have := O.n2; omega, fun H7 q known s7 hq e7 hk => ?_⟩
    have s67 := s6.trans s7
    have o7 := s67 _ _ o5
    refine ⟨_, rfl, p, C, dx, _, rfl, o7, TK.cl, TK.nN, (by show 4 < 1000; decide), ?_⟩
    have kl : ∀ b xs, H7 b = some (.lst xs) → (upd H7 p (.ins C dx (fK (.int (n : Int)) (.int S) (.ref ga) (.ref d) (.ref q)))) b = some (.lst xs) := fun b xs e => by rw [upd_ne (ne_of e o7 (by intro z; cases z))]; exact e
    have hh7 := s67 _ _ (s5 _ _ hh nhp)
    have nqh : q ≠ hd := fun e => by rw [e, s6 _ _ (s5 _ _ hh nhp)] at hq; cases hq
    refine k _ d known (s5.same s67).self hd0 ⟨dx, ga, q, [], upd_same, kl _ _ (s67 _ _ e5), (d5.same s67).keep (ds := [p]) (Keep.put (by simp) o7 (fun xs z => by cases z)) (fun hm => pd (List.mem_singleton.mp hm).symm), kl _ _ e7, ⟨_, kl _ _ hh7⟩, hgah, nqh⟩ hk
end
end Tr


set_option Elab.async false
set_option linter.all false
set_option maxRecDepth 100000
set_option maxHeartbeats 4000000
/-! the law's hand: draws -/
namespace Tr
open PySem PySem.Spec PyProof.Rows L2
/-- the hand: the script's copy, five ints -/
structure HandL (H : Hp) (hd sa : Addr) (ns : List Int) (i c k x y : Int) : Prop where
  h : H hd = some (.lst [.ref sa, .int i, .int c, .int k, .int x, .int y])
  s : H sa = some (.lst (ns.map V.int))
  n : sa ≠ hd
def HandAt (H : Hp) (hd sa : Addr) : Prop := ∃ (ns : List Int) (i c k x y : Int), HandL H hd sa ns i c k x y ∧ ns.length ≤ 63 ∧ 0 ≤ i
theorem HandL.put {H : Hp} {hd sa : Addr} {ns : List Int} {i c k x y : Int} (h : HandL H hd sa ns i c k x y) {i' c' k' x' y' : Int} (ys : List V) (e : ys = [.ref sa, .int i', .int c', .int k', .int x', .int y']) :
    HandL (upd H hd (.lst ys)) hd sa ns i' c' k' x' y' ∧ Keep [hd] H (upd H hd (.lst ys)) := by
  subst e
  exact ⟨⟨upd_same, by rw [upd_ne h.n]; exact h.s, h.n⟩, Keep.put (by simp) h.h (fun xs z => by cases z)⟩
theorem HandAt.lst {H : Hp} {hd sa : Addr} (h : HandAt H hd sa) : ∃ xs, H hd = some (.lst xs) := let ⟨_, _, _, _, _, _, h, _⟩ := h; ⟨_, h.h⟩
theorem HandAt.same {H H' : Hp} {hd sa : Addr} (h : HandAt H hd sa) (s : Same H H') : HandAt H' hd sa := by
  obtain ⟨ns, i, c, k, x, y, h, hn, hi⟩ := h
  exact ⟨ns, i, c, k, x, y, ⟨s _ _ h.h, s _ _ h.s, h.n⟩, hn, hi⟩
theorem HandAt.keep {ds : List Addr} {H H' : Hp} {hd sa : Addr} (h : HandAt H hd sa) (s : Keep ds H H') (h1 : ¬ hd ∈ ds) (h2 : ¬ sa ∈ ds) : HandAt H' hd sa := by
  obtain ⟨ns, i, c, k, x, y, h, hn, hi⟩ := h
  exact ⟨ns, i, c, k, x, y, ⟨s.1 _ _ h.h h1, s.1 _ _ h.s h2, h.n⟩, hn, hi⟩
section
variable {P : Program} {w : World} {K : PySem.W.Frag} {mg : Str → Option Value} {base : Heap}

abbrev sHand : Stmt := top 46
theorem scHand : FnScope ["_law_script"] ["_law_script"] (defScope sHand) := ⟨rfl, rfl, rfl, by decide +kernel, rfl, by decide +kernel, by decide +kernel⟩
def spHand (K : PySem.W.Frag) : Sp := fun vs H Q _ => ∃ (a : Addr) (ns : List Int), vs = [.ref a] ∧ SqL K H a (ns.map V.int) ∧ ns.length ≤ 63 ∧ ∀ H' hd sa, Same H H' → HandAt H' hd sa → Q (.ref hd) H'
theorem cal_hand (T : Blt mg) (D : Dfn K mg "_law_hand" sHand) : Cal P w K mg base "_law_hand" 1 ["_law_script"] (spHand K) := by
  obtain ⟨f, fd, F, m⟩ := D
  refine ⟨f, fd, F.ok scHand (fun vs H Q E h => ?_) (fun cdv A outer s H vs Q E hr h => ?_), m, F.kp, F.binds fun _ _ _ _ _ _ us hl => match us, hl with | [_], _ => rfl⟩
  · obtain ⟨a, ns, rfl, _⟩ := h
    rfl
  · obtain ⟨a, ns, rfl, ha, hl, k⟩ := h
    refine ⟨_, pss_one (ps_ret (pe_lst (pa_cons (pe_callTy call_list_of (by rfl) T.list (by decide +kernel) (pa_cons (pe_slice sl_list (pv 0) po_none (po_some pe_int)) pa_nil)) (pa_cons pe_int (pa_cons pe_int (pa_cons pe_int (pa_cons pe_int (pa_cons pe_int pa_nil)))))))), ?_⟩
    refine ⟨_, rfl, _, rfl, a, _, rfl, ha, fun p hp => ?_⟩
    have ec : cutV (ns.map V.int) none (some 63) = ns.map V.int := by
      unfold cutV
      rw [show (63 : Int) = ((63 : Nat) : Int) from rfl, HT.sIx_none, HT.sIx_nat, List.length_map, Nat.min_eq_right hl, List.drop_zero, Nat.sub_zero]
      exact List.take_of_length_le (by rw [List.length_map]; exact Nat.le_refl _)
    rw [ec]
    refine ⟨p, _, rfl, .inl (SqL.of upd_same), fun q hq => ⟨(by show 6 ≤ sizeLine; decide), fun hd hhd => ?_⟩⟩
    have s1 : Same H (upd (upd (upd H p (.lst (ns.map V.int))) q (.lst (ns.map V.int))) hd (.lst [.ref q, .int 0, .int 0, .int 0, .int 20011, .int 40009])) := ((Same.new hp).trans (Same.new hq)).trans (Same.new hhd)
    have nqh : q ≠ hd := ne_of_none upd_same hhd
    exact k _ hd q s1 ⟨ns, 0, 0, 0, 20011, 40009, ⟨upd_same, by rw [upd_ne nqh, upd_same], nqh⟩, hl, by decide⟩

abbrev sNext : Stmt := top 47
theorem scNext : FnScope ["_law_hand_here"] ["_law_hand_here"] (defScope sNext) := ⟨rfl, rfl, rfl, by decide +kernel, rfl, by decide +kernel, by decide +kernel⟩
def spNext : Sp := fun vs H Q _ => ∃ (hd sa : Addr) (ns : List Int) (i c k x y : Int), vs = [.ref hd] ∧ HandL H hd sa ns i c k x y ∧ ∀ H' x' y' z, HandL H' hd sa ns i c k x' y' → Keep [hd] H H' → Q (.int z) H'
theorem cal_next (D : Dfn K mg "_law_next" sNext) : Cal P w K mg base "_law_next" 1 ["_law_hand_here"] spNext := by
  obtain ⟨f, fd, F, m⟩ := D
  refine ⟨f, fd, F.ok scNext (fun vs H Q E h => ?_) (fun cdv A outer s H vs Q E hr h => ?_), m, F.kp, F.binds fun _ _ _ _ _ _ us hl => match us, hl with | [_], _ => rfl⟩
  · obtain ⟨hd, sa, ns, i, c, k, x, y, rfl, _⟩ := h
    rfl
  · obtain ⟨hd, sa, ns, i, c, k, x, y, rfl, L, kk⟩ := h
    refine ⟨_, pss_cons (ps_asg (pe_op op_mod (pe_op op_mul (pe_ix ix_list (pv 0) pe_int (fun _ _ => rfl)) pe_int) pe_int) (pg_sub (pv 0) pe_int set_list))
      (pss_cons (ps_asg (pe_op op_mod (pe_op op_mul (pe_ix ix_list (pv 0) pe_int (fun _ _ => rfl)) pe_int) pe_int) (pg_sub (pv 0) pe_int set_list))
      (pss_one (ps_ret (pe_op op_add (pe_ix ix_list (pv 0) pe_int (fun _ _ => rfl)) (pe_ix ix_list (pv 0) pe_int (fun _ _ => rfl)))))), ?_⟩
    refine ⟨_, rfl, hd, _, 4, _, rfl, rfl, SqL.of L.h, atI_nat (j := 4) rfl, _, _, rfl, rfl, .inr ⟨by decide, by decide⟩, _, _, rfl, rfl, (by show (0 : Int) < 2147483647; decide), ?_⟩
    refine ⟨_, rfl, hd, _, _, 4, rfl, rfl, L.h, rfl, ?_⟩
    obtain ⟨L1, K1⟩ := L.put (i' := i) (c' := c) (k' := k) (x' := x * 48271 % 2147483647) (y' := y) _ rfl
    refine ⟨_, rfl, hd, _, 5, _, rfl, rfl, SqL.of L1.h, atI_nat (j := 5) rfl, _, _, rfl, rfl, .inr ⟨by decide, by decide⟩, _, _, rfl, rfl, (by show (0 : Int) < 2147483399; decide), ?_⟩
    refine ⟨_, rfl, hd, _, _, 5, rfl, rfl, L1.h, rfl, ?_⟩
    obtain ⟨L2, K2⟩ := L1.put (i' := i) (c' := c) (k' := k) (x' := x * 48271 % 2147483647) (y' := y * 40693 % 2147483399) _ rfl
    refine ⟨_, rfl, hd, _, 4, _, rfl, rfl, SqL.of L2.h, atI_nat (j := 4) rfl, _, rfl, hd, _, 5, _, rfl, rfl, SqL.of L2.h, atI_nat (j := 5) rfl, _, _, rfl, rfl, ?_⟩
    exact kk _ _ _ _ L2 (K1.trans K2)

abbrev sTake : Stmt := top 48
theorem scTake : FnScope ["_law_hand_here", "_law_cell"] ["_law_hand_here"] (defScope sTake) := ⟨rfl, rfl, rfl, by decide +kernel, rfl, by decide +kernel, by decide +kernel⟩
def spTake : Sp := fun vs H Q _ => ∃ (hd sa : Addr), vs = [.ref hd] ∧ HandAt H hd sa ∧ ∀ H', HandAt H' hd sa → Keep [hd] H H' → Q .non H'
set_option maxHeartbeats 16000000 in
theorem cal_take (T : Blt mg) (C1 : Cal P w K mg base "_law_next" 1 ["_law_hand_here"] spNext) (D : Dfn K mg "_law_take" sTake) : Cal P w K mg base "_law_take" 2 ["_law_hand_here"] spTake := by
  obtain ⟨f, fd, F, m⟩ := D
  obtain ⟨f1, fd1, G1, m1, k1, b1⟩ := C1
  refine ⟨f, fd, F.ok scTake (fun vs H Q E h => ?_) (fun cdv A outer s H vs Q E hr h => ?_), m, F.kp, F.binds fun _ _ _ _ _ _ us hl => match us, hl with | [_], _ => rfl⟩
  · obtain ⟨hd, sa, rfl, _⟩ := h
    rfl
  · obtain ⟨hd, sa, rfl, ⟨ns, i, c, k, x, y, L, hn, hi⟩, kk⟩ := h
    refine ⟨_, pss_cons (ps_set (i := 1) scTake.nd rfl (.inl rfl) pe_int)
      (pss_cons (ps_if (pt_cmpR op_lt (pe_ix ix_list (pv 0) pe_int (fun _ _ => rfl)) (pe_callB call_len_seq (by rfl) T.len PySem.boot_len (pa_cons (pe_ix ix_list (pv 0) pe_int (fun _ _ => rfl)) pa_nil)) (nomark _))
        (pss_one (ps_set (i := 1) scTake.nd rfl (.inl rfl) (pe_callB call_abs (by rfl) T.abs (by decide +kernel) (pa_cons (pe_ix ix_list (pe_ix ix_list (pv 0) pe_int (fun _ _ => rfl)) (pe_ix ix_list (pv 0) pe_int (fun _ _ => rfl)) (fun _ _ => rfl)) pa_nil)))) pss_nil)
      (pss_cons (ps_augS (pv 0) pe_int get_list pe_int ip_add set_list)
      (pss_cons (ps_if (pt_cmpR op_ge (pv 1) (pe_op op_pow pe_int pe_int) (nomark _)) (pss_one (ps_asg (pv 1) (pg_sub (pv 0) pe_int set_list))) (pss_one (ps_asg pe_int (pg_sub (pv 0) pe_int set_list))))
      (pss_cons (ps_asg (pe_op op_add (pe_op op_mod (pe_op op_add (pe_ix ix_list (pv 0) pe_int (fun _ _ => rfl)) (pe_op op_mod (pv 1) pe_int)) pe_int) pe_int) (pg_sub (pv 0) pe_int set_list))
      (pss_cons (ps_asg (pe_op op_add (pe_op op_mod (pe_op op_add (pe_op op_mul (pe_ix ix_list (pv 0) pe_int (fun _ _ => rfl)) pe_int) (pe_op op_mod (pv 1) pe_int)) pe_int) pe_int) (pg_sub (pv 0) pe_int set_list))
      (pss_cons (ps_expr (pe_call G1 hr rfl m1 k1 b1 .nil pass0 (pa_cons (pv 0) pa_nil)))
      (pss_one (ps_expr (pe_call G1 hr rfl m1 k1 b1 .nil pass0 (pa_cons (pv 0) pa_nil)))))))))), ?_⟩
    refine ⟨_, rfl, hd, _, 1, _, rfl, rfl, SqL.of L.h, atI_nat (j := 1) rfl, _, rfl, hd, _, 0, _, rfl, rfl, SqL.of L.h, atI_nat (j := 0) rfl, sa, _, rfl, .inl (SqL.of L.s), _, _, rfl, rfl, _, rfl, ?_⟩
    -- whatever the cell is, the rest
    have rest : ∀ cell : Int, (tSeq (tAugS (tVar 0) (tC (.int 1)) (tC (.int 1)) (rIxL K) (ipI fun i j => i + j) rSetL)
      (tSeq (tIfS (tTest (tOp (rI0 fun i j => .bl (decide (j ≤ i))) (tVar 1) (tOp (rI CPow fun i j => .int (i ^ j.toNat)) (tC (.int 10)) (tC (.int 18))))) (tAsg (tVar 1) (gSub (tVar 0) (tC (.int 2)) rSetL)) (tAsg (tC (.int 7)) (gSub (tVar 0) (tC (.int 3)) rSetL)))
      (tSeq (tAsg (tOp (rI0 fun i j => .int (i + j)) (tOp (rI (fun _ j => 0 < j) fun i j => .int (i % j)) (tOp (rI0 fun i j => .int (i + j)) (tOp (rIxL K) (tVar 0) (tC (.int 4))) (tOp (rI (fun _ j => 0 < j) fun i j => .int (i % j)) (tVar 1) (tC (.int 2147483587)))) (tC (.int 2147483646))) (tC (.int 1))) (gSub (tVar 0) (tC (.int 4)) rSetL))
      (tSeq (tAsg (tOp (rI0 fun i j => .int (i + j)) (tOp (rI (fun _ j => 0 < j) fun i j => .int (i % j)) (tOp (rI0 fun i j => .int (i + j)) (tOp (rI CMul fun i j => .int (i * j)) (tOp (rIxL K) (tVar 0) (tC (.int 5))) (tC (.int 3))) (tOp (rI (fun _ j => 0 < j) fun i j => .int (i % j)) (tVar 1) (tC (.int 1000003)))) (tC (.int 2147483398))) (tC (.int 1))) (gSub (tVar 0) (tC (.int 5)) rSetL))
      (tSeq (tDrop (tCall spNext [] E0 (tCons (tVar 0) tNil))) (tDrop (tCall spNext [] E0 (tCons (tVar 0) tNil))))))))
      { nx := fun _ H' => Q .non H', rt := Q } [some (.ref hd), some (.int cell)] H := fun cell => by
      refine ⟨_, rfl, hd, _, 1, _, rfl, rfl, SqL.of L.h, atI_nat (j := 1) rfl, _, _, rfl, rfl, hd, _, _, 1, rfl, rfl, L.h, rfl, ?_⟩
      obtain ⟨L1, K1⟩ := L.put (i' := i + 1) (c' := c) (k' := k) (x' := x) (y' := y) _ rfl
      refine ⟨_, rfl, _, _, rfl, rfl, ⟨by decide, by decide, by decide⟩, _, _, rfl, rfl, _, rfl, ?_⟩
      have fin : ∀ (H2 : Hp) (c' k' : Int), HandL H2 hd sa ns (i + 1) c' k' x y → Keep [hd] H H2 → (tSeq (tAsg (tOp (rI0 fun i j => .int (i + j)) (tOp (rI (fun _ j => 0 < j) fun i j => .int (i % j)) (tOp (rI0 fun i j => .int (i + j)) (tOp (rIxL K) (tVar 0) (tC (.int 4))) (tOp (rI (fun _ j => 0 < j) fun i j => .int (i % j)) (tVar 1) (tC (.int 2147483587)))) (tC (.int 2147483646))) (tC (.int 1))) (gSub (tVar 0) (tC (.int 4)) rSetL))
          (tSeq (tAsg (tOp (rI0 fun i j => .int (i + j)) (tOp (rI (fun _ j => 0 < j) fun i j => .int (i % j)) (tOp (rI0 fun i j => .int (i + j)) (tOp (rI CMul fun i j => .int (i * j)) (tOp (rIxL K) (tVar 0) (tC (.int 5))) (tC (.int 3))) (tOp (rI (fun _ j => 0 < j) fun i j => .int (i % j)) (tVar 1) (tC (.int 1000003)))) (tC (.int 2147483398))) (tC (.int 1))) (gSub (tVar 0) (tC (.int 5)) rSetL))
          (tSeq (tDrop (tCall spNext [] E0 (tCons (tVar 0) tNil))) (tDrop (tCall spNext [] E0 (tCons (tVar 0) tNil))))))
          { nx := fun _ H' => Q .non H', rt := Q } [some (.ref hd), some (.int cell)] H2 := fun H2 c' k' L2 K2 => by
        refine ⟨_, rfl, hd, _, 4, _, rfl, rfl, SqL.of L2.h, atI_nat (j := 4) rfl, _, rfl, _, _, rfl, rfl, (by show (0 : Int) < 2147483587; decide), _, _, rfl, rfl, _, _, rfl, rfl, (by show (0 : Int) < 2147483646; decide), _, _, rfl, rfl, ?_⟩
        refine ⟨_, rfl, hd, _, _, 4, rfl, rfl, L2.h, rfl, ?_⟩
        obtain ⟨L3, K3⟩ := L2.put (i' := i + 1) (c' := c') (k' := k') (x' := (x + cell % 2147483587) % 2147483646 + 1) (y' := y) _ rfl
        refine ⟨_, rfl, hd, _, 5, _, rfl, rfl, SqL.of L3.h, atI_nat (j := 5) rfl, _, _, rfl, rfl, .inr ⟨by decide, by decide⟩, _, rfl, _, _, rfl, rfl, (by show (0 : Int) < 1000003; decide), _, _, rfl, rfl, _, _, rfl, rfl, (by show (0 : Int) < 2147483398; decide), _, _, rfl, rfl, ?_⟩
        refine ⟨_, rfl, hd, _, _, 5, rfl, rfl, L3.h, rfl, ?_⟩
        obtain ⟨L4, K4⟩ := L3.put (i' := i + 1) (c' := c') (k' := k') (x' := (x + cell % 2147483587) % 2147483646 + 1) (y' := (y * 3 + cell % 1000003) % 2147483398 + 1) _ rfl
        refine ⟨_, rfl, hd, sa, ns, _, _, _, _, _, rfl, L4, fun H5 x5 y5 z5 L5 K5 => ?_⟩
        refine ⟨_, rfl, hd, sa, ns, _, _, _, _, _, rfl, L5, fun H6 x6 y6 z6 L6 K6 => ?_⟩
        exact kk H6 ⟨ns, i + 1, c', k', x6, y6, L6, hn, by omega⟩ ((((K2.trans K3).trans K4).trans K5).trans K6)
      by_cases hc : (10 : Int) ^ (18 : Int).toNat ≤ cell
      · refine iteY hc ?_
        refine ⟨_, rfl, _, rfl, hd, _, _, 2, rfl, rfl, L1.h, rfl, ?_⟩
        obtain ⟨L2, K2⟩ := L1.put (i' := i + 1) (c' := cell) (k' := k) (x' := x) (y' := y) _ rfl
        exact fin _ _ _ L2 (K1.trans K2)
      · refine iteN hc ?_
        refine ⟨_, rfl, hd, _, _, 3, rfl, rfl, L1.h, rfl, ?_⟩
        obtain ⟨L2, K2⟩ := L1.put (i' := i + 1) (c' := c) (k' := 7) (x' := x) (y' := y) _ rfl
        exact fin _ _ _ L2 (K1.trans K2)
    rw [List.length_map]
    by_cases hlt : i < (ns.length : Int)
    · refine iteY hlt ?_
      have hj : i.toNat < ns.length := by omega
      refine ⟨_, rfl, hd, _, 0, _, rfl, rfl, SqL.of L.h, atI_nat (j := 0) rfl, _, rfl, hd, _, 1, _, rfl, rfl, SqL.of L.h, atI_nat (j := 1) rfl, sa, _, _, .int ns[i.toNat], rfl, rfl, SqL.of L.s, at_of (j := i.toNat) (by omega) (by rw [List.getElem?_map, List.getElem?_eq_getElem hj]; rfl), _, rfl, ?_⟩
      exact rest _
    · refine iteN hlt ?_
      exact rest _
end
end Tr


set_option Elab.async false
set_option linter.all false
set_option maxRecDepth 100000
set_option maxHeartbeats 4000000
/-! the law's draws, its table, less, moved, state -/
namespace Tr
open PySem PySem.Spec PyProof.Rows L2
section
variable {P : Program} {w : World} {K : PySem.W.Frag} {mg : Str → Option Value} {base : Heap}

abbrev sDraw : Stmt := top 49
abbrev nDraw : List Str := ["_law_hand_here", "_law_many", "_law_got", "_law_value", "_law_size"]
theorem scDraw : FnScope nDraw ["_law_hand_here", "_law_many"] (defScope sDraw) := ⟨rfl, rfl, rfl, by decide +kernel, rfl, by decide +kernel, by decide +kernel⟩
def spDraw : Sp := fun vs H Q _ => ∃ (hd sa : Addr) (m : Int), vs = [.ref hd, .int m] ∧ HandAt H hd sa ∧ 1 ≤ m ∧ m ≤ 1000000000000000000000 ∧ ∀ H' v, 0 ≤ v → v < m → HandAt H' hd sa → Keep [hd] H H' → Q (.int v) H'
set_option maxHeartbeats 16000000 in
theorem cal_draw (C1 : Cal P w K mg base "_law_next" 1 ["_law_hand_here"] spNext) (C2 : Cal P w K mg base "_law_take" 2 ["_law_hand_here"] spTake) (D : Dfn K mg "_law_draw" sDraw) : Cal P w K mg base "_law_draw" 3 ["_law_hand_here", "_law_many"] spDraw := by
  obtain ⟨f, fd, F, m⟩ := D
  obtain ⟨f1, fd1, G1, m1, k1, b1⟩ := C1
  obtain ⟨f2, fd2, G2, m2, k2, b2⟩ := C2
  refine ⟨f, fd, F.ok scDraw (fun vs H Q E h => ?_) (fun cdv A outer s H vs Q E hr h => ?_), m, F.kp, F.binds fun _ _ _ _ _ _ us hl => match us, hl with | [_, _], _ => rfl⟩
  · obtain ⟨hd, sa, mm, rfl, _⟩ := h
    rfl
  · obtain ⟨hd, sa, mm, rfl, HA, hm1, hm2, kk⟩ := h
    have hr1 : Room 1 _ := hr.mono (by decide)
    refine ⟨_, Evl.pss_cut (ps_if (PW.pt (pw_and (pt_cmpR op_eq (pe_ix ix_list (pv 0) pe_int (fun _ _ => rfl)) pe_int (nomark _)) (pw_and1 (pt_cmpR op_eq (pe_ix ix_list (pv 0) pe_int (fun _ _ => rfl)) pe_int (nomark _))))) (pss_one (ps_expr (pe_call G2 hr rfl m2 k2 b2 .nil pass0 (pa_cons (pv 0) pa_nil)))) pss_nil)
      (pss_cons (ps_if (pt_cmpR op_gt (pe_ix ix_list (pv 0) pe_int (fun _ _ => rfl)) pe_int (nomark _))
        (pss_cons (ps_set (i := 2) scDraw.nd rfl (.inl rfl) (pe_op op_mod (pe_ix ix_list (pv 0) pe_int (fun _ _ => rfl)) (pv 1)))
        (pss_cons (ps_asg (pe_op op_fdivW (pe_ix ix_list (pv 0) pe_int (fun _ _ => rfl)) (pv 1)) (pg_sub (pv 0) pe_int set_list))
        (pss_one (ps_ret (pv 2))))) pss_nil)
      (pss_cons (ps_augS (pv 0) pe_int get_list pe_int ip_sub set_list)
      (pss_cons (ps_set (i := 3) scDraw.nd rfl (.inl rfl) (pe_call G1 hr1 rfl m1 k1 b1 .nil pass0 (pa_cons (pv 0) pa_nil)))
      (pss_cons (ps_set (i := 4) scDraw.nd rfl (.inl rfl) pe_int)
      (pss_cons (ps_while PassesOwn.never (pt_cmpR op_lt (pv 4) (pv 1) (nomark _))
        (pss_cons (ps_set (i := 3) scDraw.nd rfl (.inl rfl) (pe_op op_add (pe_op op_mul (pv 3) pe_int) (pe_call G1 hr1 rfl m1 k1 b1 .nil pass0 (pa_cons (pv 0) pa_nil))))
        (pss_one (ps_set (i := 4) scDraw.nd rfl (.inl rfl) (pe_op op_mul (pv 4) pe_int)))))
      (pss_one (ps_ret (pe_op op_mod (pv 3) (pv 1))))))))), ?_⟩
    -- if there is nothing left: take
    refine ⟨fun σ H1 => σ = [some (.ref hd), some (.int mm), none, none, none] ∧ HandAt H1 hd sa ∧ Keep [hd] H H1, ?_, ?_⟩
    · obtain ⟨ns, i, c, k, x, y, L, hn, hi⟩ := id HA
      refine ⟨_, rfl, hd, _, 2, _, rfl, rfl, SqL.of L.h, atI_nat (j := 2) rfl, rfl, _, rfl, ?_⟩
      refine ite2 (fun _ => ?_) (fun _ => ?_)
      · refine ⟨_, rfl, hd, _, 3, _, rfl, rfl, SqL.of L.h, atI_nat (j := 3) rfl, rfl, _, rfl, ?_⟩
        refine ite2 (fun _ => ?_) (fun _ => ?_)
        · exact ⟨_, rfl, hd, sa, rfl, HA, fun H1 HA1 K1 => ⟨rfl, HA1, K1⟩⟩
        · exact ⟨rfl, HA, Keep.refl⟩
      · exact ⟨rfl, HA, Keep.refl⟩
    · rintro σ H1 ⟨rfl, ⟨ns, i, c, k, x, y, L, hn, hi⟩, K1⟩
      refine ⟨_, rfl, hd, _, 2, _, rfl, rfl, SqL.of L.h, atI_nat (j := 2) rfl, _, _, rfl, rfl, _, rfl, ?_⟩
      refine ite2 (fun _ => ?_) (fun _ => ?_)
      · refine ⟨_, rfl, hd, _, 2, _, rfl, rfl, SqL.of L.h, atI_nat (j := 2) rfl, _, rfl, _, _, rfl, rfl, (by show 0 < mm; omega), ?_⟩
        refine ⟨_, rfl, hd, _, 2, _, rfl, rfl, SqL.of L.h, atI_nat (j := 2) rfl, _, rfl, _, _, rfl, rfl, wide_div (b := 100) (by omega) (by omega) (by decide) (by decide), _, rfl, hd, _, _, 2, rfl, rfl, L.h, rfl, ?_⟩
        obtain ⟨L1, K2⟩ := L.put (i' := i) (c' := c / mm) (k' := k) (x' := x) (y' := y) _ rfl
        exact ⟨_, rfl, kk _ _ (Int.emod_nonneg _ (by omega)) (Int.emod_lt_of_pos _ (by omega)) ⟨ns, i, _, _, _, _, L1, hn, hi⟩ (K1.trans K2)⟩
      · refine ⟨_, rfl, hd, _, 3, _, rfl, rfl, SqL.of L.h, atI_nat (j := 3) rfl, _, _, rfl, rfl, hd, _, _, 3, rfl, rfl, L.h, rfl, ?_⟩
        obtain ⟨L1, K2⟩ := L.put (i' := i) (c' := c) (k' := k - 1) (x' := x) (y' := y) _ rfl
        refine ⟨_, rfl, hd, sa, ns, _, _, _, _, _, rfl, L1, fun H2 x2 y2 z2 L2' K3 => ?_⟩
        have K4 := (K1.trans K2).trans K3
        -- while the size is less
        refine ⟨fun μ σ H3 => ∃ (v sz : Int), σ = [some (.ref hd), some (.int mm), none, some (.int v), some (.int sz)] ∧ HandAt H3 hd sa ∧ Keep [hd] H H3 ∧ 1 ≤ sz ∧ μ = (mm - sz).toNat, ⟨_, z2, 4294967296, rfl, ⟨ns, i, _, _, _, _, L2', hn, hi⟩, K4, by decide, rfl⟩, ?_⟩
        rintro μ σ H3 ⟨v, sz, rfl, HA3, K5, hs, rfl⟩
        refine ⟨_, rfl, _, rfl, _, _, rfl, rfl, _, rfl, ?_⟩
        by_cases hlt : sz < mm
        · refine iteY hlt ⟨_, fun σ' H' h => h, ?_⟩
          obtain ⟨ns', i', c', k', x', y', L3, hn', hi'⟩ := HA3
          refine ⟨_, rfl, _, _, rfl, rfl, .inr ⟨by decide, by decide⟩, _, rfl, hd, sa, ns', _, _, _, _, _, rfl, L3, fun H4 x4 y4 z4 L4 K6 => ⟨_, _, rfl, rfl, ?_⟩⟩
          refine ⟨_, rfl, _, _, rfl, rfl, .inr ⟨by decide, by decide⟩, ?_⟩
          exact ⟨_, by omega, _, _, rfl, ⟨ns', i', _, _, _, _, L4, hn', hi'⟩, K5.trans K6, by omega, rfl⟩
        · refine iteN hlt ?_
          refine ⟨_, rfl, _, rfl, _, _, rfl, rfl, (by show 0 < mm; omega), ?_⟩
          exact kk _ _ (Int.emod_nonneg _ (by omega)) (Int.emod_lt_of_pos _ (by omega)) HA3 K5

abbrev sScale : Stmt := top 50
theorem scScale : FnScope ["_law_hand_here"] ["_law_hand_here"] (defScope sScale) := ⟨rfl, rfl, rfl, by decide +kernel, rfl, by decide +kernel, by decide +kernel⟩
def spScale : Sp := fun vs H Q _ => ∃ (hd sa : Addr), vs = [.ref hd] ∧ HandAt H hd sa ∧ ∀ H' z, 1 ≤ z → z ≤ 1000000000000000000 → HandAt H' hd sa → Keep [hd] H H' → Q (.int z) H'
theorem hand_ne {H : Hp} {hd sa l : Addr} (h : HandAt H hd sa) (hl : H l = none) : hd ≠ l := by
  obtain ⟨xs, e⟩ := h.lst
  exact ne_of_none e hl
theorem cal_scale (C1 : Cal P w K mg base "_law_draw" 3 ["_law_hand_here", "_law_many"] spDraw) (D : Dfn K mg "_law_scale" sScale) : Cal P w K mg base "_law_scale" 4 ["_law_hand_here"] spScale := by
  obtain ⟨f, fd, F, m⟩ := D
  obtain ⟨f1, fd1, G1, m1, k1, b1⟩ := C1
  refine ⟨f, fd, F.ok scScale (fun vs H Q E h => ?_) (fun cdv A outer s H vs Q E hr h => ?_), m, F.kp, F.binds fun _ _ _ _ _ _ us hl => match us, hl with | [_], _ => rfl⟩
  · obtain ⟨hd, sa, rfl, _⟩ := h
    rfl
  · obtain ⟨hd, sa, rfl, HA, kk⟩ := h
    refine ⟨_, pss_one (ps_ret (pe_ix ix_list (pe_lst (pa_cons pe_int (pa_cons pe_int (pa_cons pe_int (pa_cons pe_int (pa_cons (pe_op op_pow pe_int pe_int) (pa_cons (pe_op op_pow pe_int pe_int) pa_nil))))))) (pe_call G1 hr rfl m1 k1 b1 .nil pass0 (pa_cons (pv 0) (pa_cons pe_int pa_nil))) (fun _ _ => rfl))), ?_⟩
    refine ⟨_, _, rfl, rfl, ⟨by decide, by decide, by decide⟩, _, _, rfl, rfl, ⟨by decide, by decide, by decide⟩, (by show 6 ≤ sizeLine; decide), fun l hl => ?_⟩
    have nl := hand_ne HA hl
    have s1 : Same H (upd H l (.lst [.int 1, .int 3, .int 9, .int 1000, .int ((10 : Int) ^ (9 : Int).toNat), .int ((10 : Int) ^ (18 : Int).toNat)])) := Same.new hl
    refine ⟨_, rfl, hd, sa, 6, rfl, HA.same s1, by decide, by decide, fun H1 v v0 v1 HA1 K1 => ?_⟩
    have hl1 := K1.1 l _ upd_same (by simpa using nl.symm)
    have fin : ∀ z : Int, 1 ≤ z → z ≤ 1000000000000000000 → ∀ j : Nat, v = (j : Int) → ([.int 1, .int 3, .int 9, .int 1000, .int ((10 : Int) ^ (9 : Int).toNat), .int ((10 : Int) ^ (18 : Int).toNat)] : List V)[j]? = some (.int z) → rIxL K (.ref l) (.int v) H1 Q := fun z h1 h2 j ej e =>
      ⟨l, _, v, .int z, rfl, rfl, SqL.of hl1, at_of ej e, kk H1 z h1 h2 HA1 ((Keep.new hl).trans K1)⟩
    have hv : v = 0 ∨ v = 1 ∨ v = 2 ∨ v = 3 ∨ v = 4 ∨ v = 5 := by omega
    rcases hv with e | e | e | e | e | e
    · exact fin 1 (by decide) (by decide) 0 (by omega) rfl
    · exact fin 3 (by decide) (by decide) 1 (by omega) rfl
    · exact fin 9 (by decide) (by decide) 2 (by omega) rfl
    · exact fin 1000 (by decide) (by decide) 3 (by omega) rfl
    · exact fin ((10 : Int) ^ (9 : Int).toNat) (by decide) (by decide) 4 (by omega) rfl
    · exact fin ((10 : Int) ^ (18 : Int).toNat) (by decide) (by decide) 5 (by omega) rfl

abbrev sChange : Stmt := top 51
theorem scChange : FnScope ["_law_hand_here", "_law_scale_here"] ["_law_hand_here", "_law_scale_here"] (defScope sChange) := ⟨rfl, rfl, rfl, by decide +kernel, rfl, by decide +kernel, by decide +kernel⟩
def spChange : Sp := fun vs H Q _ => ∃ (hd sa : Addr) (sc : Int), vs = [.ref hd, .int sc] ∧ HandAt H hd sa ∧ 1 ≤ sc ∧ sc ≤ 1000000000000000000 ∧ ∀ H' z, -sc ≤ z → z ≤ sc → HandAt H' hd sa → Keep [hd] H H' → Q (.int z) H'
theorem cal_change (C1 : Cal P w K mg base "_law_draw" 3 ["_law_hand_here", "_law_many"] spDraw) (D : Dfn K mg "_law_change" sChange) : Cal P w K mg base "_law_change" 4 ["_law_hand_here", "_law_scale_here"] spChange := by
  obtain ⟨f, fd, F, m⟩ := D
  obtain ⟨f1, fd1, G1, m1, k1, b1⟩ := C1
  refine ⟨f, fd, F.ok scChange (fun vs H Q E h => ?_) (fun cdv A outer s H vs Q E hr h => ?_), m, F.kp, F.binds fun _ _ _ _ _ _ us hl => match us, hl with | [_, _], _ => rfl⟩
  · obtain ⟨hd, sa, sc, rfl, _⟩ := h
    rfl
  · obtain ⟨hd, sa, sc, rfl, HA, h1, h2, kk⟩ := h
    refine ⟨_, pss_one (ps_ret (pe_op op_sub (pe_call G1 hr rfl m1 k1 b1 .nil pass0 (pa_cons (pv 0) (pa_cons (pe_op op_add (pe_op op_mul pe_int (pv 1)) pe_int) pa_nil))) (pv 1))), ?_⟩
    refine ⟨_, rfl, _, rfl, _, _, rfl, rfl, .inl ⟨by decide, by decide⟩, _, _, rfl, rfl, hd, sa, _, rfl, HA, by omega, by omega, fun H1 v v0 v1 HA1 K1 => ?_⟩
    exact ⟨_, rfl, _, _, rfl, rfl, kk H1 _ (by omega) (by omega) HA1 K1⟩

abbrev sStore : Stmt := top 52
theorem scStore : FnScope ["_law_hand_here", "_law_scale_here", "_law_way"] ["_law_hand_here", "_law_scale_here"] (defScope sStore) := ⟨rfl, rfl, rfl, by decide +kernel, rfl, by decide +kernel, by decide +kernel⟩
def spStore : Sp := fun vs H Q _ => ∃ (hd sa : Addr) (sc : Int), vs = [.ref hd, .int sc] ∧ HandAt H hd sa ∧ 1 ≤ sc ∧ sc ≤ 1000000000000000000 ∧ ∀ H' z, 0 ≤ z → z ≤ 100000000000000000000 → HandAt H' hd sa → Keep [hd] H H' → Q (.int z) H'
theorem cal_store (T : Blt mg) (C1 : Cal P w K mg base "_law_draw" 3 ["_law_hand_here", "_law_many"] spDraw) (D : Dfn K mg "_law_store" sStore) : Cal P w K mg base "_law_store" 4 ["_law_hand_here", "_law_scale_here"] spStore := by
  obtain ⟨f, fd, F, m⟩ := D
  obtain ⟨f1, fd1, G1, m1, k1, b1⟩ := C1
  refine ⟨f, fd, F.ok scStore (fun vs H Q E h => ?_) (fun cdv A outer s H vs Q E hr h => ?_), m, F.kp, F.binds fun _ _ _ _ _ _ us hl => match us, hl with | [_, _], _ => rfl⟩
  · obtain ⟨hd, sa, sc, rfl, _⟩ := h
    rfl
  · obtain ⟨hd, sa, sc, rfl, HA, h1, h2, kk⟩ := h
    refine ⟨_, pss_cons (ps_set (i := 2) scStore.nd rfl (.inl rfl) (pe_call G1 hr rfl m1 k1 b1 .nil pass0 (pa_cons (pv 0) (pa_cons pe_int pa_nil))))
      (pss_cons (ps_if (pt_cmpR op_eq (pv 2) pe_int (nomark _)) (pss_one (ps_ret (pe_call G1 hr rfl m1 k1 b1 .nil pass0 (pa_cons (pv 0) (pa_cons pe_int pa_nil))))) pss_nil)
      (pss_cons (ps_if (pt_cmpR op_eq (pv 2) pe_int (nomark _)) (pss_one (ps_ret (pe_ix ix_list (pe_lst (pa_cons (pe_op op_pow pe_int pe_int) (pa_cons (pe_op op_pow pe_int pe_int) pa_nil))) (pe_call G1 hr rfl m1 k1 b1 .nil pass0 (pa_cons (pv 0) (pa_cons pe_int pa_nil))) (fun _ _ => rfl)))) pss_nil)
      (pss_one (ps_ret (pe_callB (call_min2 rfl) (by rfl) T.min (by decide +kernel) (pa_cons (pe_op op_pow pe_int pe_int) (pa_cons (pe_call G1 hr rfl m1 k1 b1 .nil pass0 (pa_cons (pv 0) (pa_cons (pe_op op_add (pe_op op_mul pe_int (pv 1)) pe_int) pa_nil))) pa_nil))))))), ?_⟩
    refine ⟨_, rfl, hd, sa, 6, rfl, HA, by decide, by decide, fun H1 v v0 v1 HA1 K1 => ?_⟩
    refine ⟨_, rfl, rfl, _, rfl, ite2 (fun _ => ?_) (fun _ => ?_)⟩
    · exact ⟨_, rfl, hd, sa, 4, rfl, HA1, by decide, by decide, fun H2 u u0 u1 HA2 K2 => kk H2 u u0 (by omega) HA2 (K1.trans K2)⟩
    refine ⟨_, rfl, rfl, _, rfl, ite2 (fun _ => ?_) (fun _ => ?_)⟩
    · refine ⟨_, _, rfl, rfl, ⟨by decide, by decide, by decide⟩, _, _, rfl, rfl, ⟨by decide, by decide, by decide⟩, (by show 2 ≤ sizeLine; decide), fun l hl => ?_⟩
      have nl := hand_ne HA1 hl
      have s1 : Same H1 (upd H1 l (.lst [.int ((10 : Int) ^ (18 : Int).toNat), .int ((10 : Int) ^ (20 : Int).toNat)])) := Same.new hl
      refine ⟨_, rfl, hd, sa, 2, rfl, HA1.same s1, by decide, by decide, fun H2 u u0 u1 HA2 K2 => ?_⟩
      have hl1 := K2.1 l _ upd_same (by simpa using nl.symm)
      have fin : ∀ z : Int, 0 ≤ z → z ≤ 100000000000000000000 → ∀ j : Nat, u = (j : Int) → ([.int ((10 : Int) ^ (18 : Int).toNat), .int ((10 : Int) ^ (20 : Int).toNat)] : List V)[j]? = some (.int z) → rIxL K (.ref l) (.int u) H2 Q := fun z h1 h2 j ej e =>
        ⟨l, _, u, .int z, rfl, rfl, SqL.of hl1, at_of ej e, kk H2 z h1 h2 HA2 ((K1.trans (Keep.new hl)).trans K2)⟩
      have hu : u = 0 ∨ u = 1 := by omega
      rcases hu with e | e
      · exact fin ((10 : Int) ^ (18 : Int).toNat) (by decide) (by decide) 0 (by omega) rfl
      · exact fin ((10 : Int) ^ (20 : Int).toNat) (by decide) (by decide) 1 (by omega) rfl
    · refine ⟨_, _, rfl, rfl, ⟨by decide, by decide, by decide⟩, _, rfl, _, rfl, _, _, rfl, rfl, .inl ⟨by decide, by decide⟩, _, _, rfl, rfl, hd, sa, _, rfl, HA1, by omega, by omega, fun H2 u u0 u1 HA2 K2 => ⟨_, _, rfl, ?_⟩⟩
      have ep : (10 : Int) ^ (18 : Int).toNat = 1000000000000000000 := by decide
      refine kk H2 _ ?_ ?_ HA2 (K1.trans K2)
      · split <;> omega
      · split <;> omega

abbrev sTab : Stmt := top 53
abbrev nTab : List Str := ["_law_hand_here", "_law_many", "_law_store_here", "_law_rare", "_law_k"]
theorem scTab : FnScope nTab ["_law_hand_here", "_law_many", "_law_store_here"] (defScope sTab) := ⟨rfl, rfl, rfl, by decide +kernel, rfl, by decide +kernel, by decide +kernel⟩
def spTab : Sp := fun vs H Q _ => ∃ (hd sa : Addr) (n : Nat) (S : Int), vs = [.ref hd, .int (n : Int), .int S] ∧ HandAt H hd sa ∧ n ≤ 100 ∧ 0 ≤ S ∧ S ≤ 100000000000000000000 ∧
  ∀ H' a t, HandAt H' hd sa → Keep [hd] H H' → a ≠ hd → H' a = some (.lst (tv t)) → t.length = n → (∀ p y, g t p = some y → 0 ≤ y ∧ y ≤ S) → Q (.ref a) H'
def rInt1 : List V → Hp → VK → Prop := fun xs H Q => (∃ i, xs = [.int i] ∧ Q (.int i) H) ∨ ∃ k, xs = [.bl k] ∧ Q (.int (if k then 1 else 0)) H
theorem g_snoc {t : Tb} {o : Option Int} {p : Nat} : g (t ++ [o]) p = if p = t.length then o else g t p := by
  unfold g
  by_cases h : p < t.length
  · rw [List.getElem?_append_left h, if_neg (by omega)]
  · by_cases e : p = t.length
    · rw [if_pos e, e, List.getElem?_append_right (Nat.le_refl _)]
      cases o <;> simp
    · rw [if_neg e, List.getElem?_eq_none (by simp; omega), List.getElem?_eq_none (by omega)]
theorem cal_tab (T : Blt mg) (C1 : Cal P w K mg base "_law_draw" 3 ["_law_hand_here", "_law_many"] spDraw) (D : Dfn K mg "_law_table" sTab) : Cal P w K mg base "_law_table" 4 ["_law_hand_here", "_law_many", "_law_store_here"] spTab := by
  obtain ⟨f, fd, F, m⟩ := D
  obtain ⟨f1, fd1, G1, m1, k1, b1⟩ := C1
  refine ⟨f, fd, F.ok scTab (fun vs H Q E h => ?_) (fun cdv A outer s H vs Q E hr h => ?_), m, F.kp, F.binds fun _ _ _ _ _ _ us hl => match us, hl with | [_, _, _], _ => rfl⟩
  · obtain ⟨hd, sa, n, S, rfl, _⟩ := h
    rfl
  · obtain ⟨hd, sa, n, S, rfl, HA, hn, hS0, hS1, kk⟩ := h
    refine ⟨_, pss_cons (ps_set (i := 3) scTab.nd rfl (.inr rfl) (pe_op op_add pe_int (pe_op op_mul pe_int (pe_call G1 hr rfl m1 k1 b1 .nil pass0 (pa_cons (pv 0) (pa_cons pe_int pa_nil))))))
      (pss_one (ps_ret (pe_lc (own := [("_law_k", 4)]) (g := gName 4) (tt := tYes)
        (te := tOp (rIxL K) (tLst (tCons (tCall spDraw [] E0 (tCons (tVar 0) (tCons (tOp (rI0 fun i j => .int (i + j)) (tVar 2) (tC (.int 1))) tNil))) (tCons (tC .non) tNil))) (tCB rInt1 (tCons (tOp (rI0 fun i j => .bl (decide (j < i))) (tCall spDraw [] E0 (tCons (tVar 0) (tCons (tVar 3) tNil))) (tC (.int 0))) tNil))) rfl scTab.nd
        (pi_range1 (by rfl) T.range (pa_cons (pv 1) pa_nil)) (blkOk_by (N := nTab) (sc := defScope sTab) (by decide +kernel)) (fun _ _ _ _ _ => pg_name (i := 4) scTab.nd rfl (Or.inl rfl)) (fun _ _ _ _ _ => pts_nil)
        (fun _ _ _ _ _ => pe_ix ix_list (pe_lst (pa_cons (pe_call G1 hr rfl m1 k1 b1 .nil pass0 (pa_cons (pv 0) (pa_cons (pe_op op_add (pv 2) pe_int) pa_nil))) (pa_cons pe_non pa_nil))) (pe_callTy call_int1 (by rfl) T.int (by decide +kernel) (pa_cons (pe_cmpR op_gt (pe_call G1 hr rfl m1 k1 b1 .nil pass0 (pa_cons (pv 0) (pa_cons (pv 3) pa_nil))) pe_int (nomark _)) pa_nil)) (fun _ _ => rfl))))), ?_⟩
    refine ⟨_, rfl, hd, sa, 2, rfl, HA, by decide, by decide, fun H1 v v0 v1 HA1 K1 => ⟨_, _, rfl, rfl, .inl ⟨by decide, by decide⟩, _, _, rfl, rfl, ?_⟩⟩
    refine ⟨_, rfl, n, rfl, by omega, by omega, fun D hD => ?_⟩
    have nD := hand_ne HA1 hD
    have nsD : sa ≠ D := by
      obtain ⟨ns, a, b, c, d, e', L, h6, h7⟩ := HA1
      exact ne_of_none L.s hD
    have en : ((n : Int)).toNat = n := by omega
    rw [en]
    refine lc_range (lo := 0) (n := n) (fun i H2 => HandAt H2 hd sa ∧ Keep [hd] H1 H2 ∧ ∃ t : Tb, H2 D = some (.lst (tv t)) ∧ t.length = i ∧ ∀ p y, g t p = some y → 0 ≤ y ∧ y ≤ S)
      ⟨HA1.same (Same.new hD), Keep.new hD, [], upd_same, rfl, fun p y h => (by simp [g] at h)⟩ ?_ ?_
    · rintro i H2 hi ⟨HA2, K2, t, h2, htl, htb⟩
      refine ⟨rfl, _, rfl, _, rfl, _, _, rfl, rfl, hd, sa, _, rfl, HA2, by omega, by omega, fun H3 u u0 u1 HA3 K3 => ⟨(by show 2 ≤ sizeLine; decide), fun l hl => ?_⟩⟩
      have nl := hand_ne HA3 hl
      have s4 : Same H3 (upd H3 l (.lst [.int u, .non])) := Same.new hl
      have h3 := K3.1 _ _ h2 (by simpa using nD.symm)
      have h4 := s4 _ _ h3
      refine ⟨_, rfl, _, rfl, hd, sa, _, rfl, HA3.same s4, by omega, by omega, fun H5 z z0 z1 HA5 K5 => ?_⟩
      have hl5 := K5.1 l _ upd_same (by simpa using nl.symm)
      have h5 := K5.1 _ _ h4 (by simpa using nD.symm)
      have K15 : Keep [hd] H1 H5 := ((K2.trans K3).trans (Same.keep s4).of).trans K5
      have fin : ∀ (j : Nat) (o : Option Int), ([.int u, .non] : List V)[j]? = some (ov o) → (∀ y, o = some y → 0 ≤ y ∧ y ≤ S) → rIxL K (.ref l) (.int (j : Int)) H5 fun y H4 => ∃ acc, H4 D = some (.lst acc) ∧ acc.length < sizeLine ∧ (HandAt (upd H4 D (.lst (acc ++ [y]))) hd sa ∧ Keep [hd] H1 (upd H4 D (.lst (acc ++ [y]))) ∧
          ∃ t : Tb, (upd H4 D (.lst (acc ++ [y]))) D = some (.lst (tv t)) ∧ t.length = i + 1 ∧ ∀ p y, g t p = some y → 0 ≤ y ∧ y ≤ S) := fun j o e hb => by
        refine ⟨l, _, _, ov o, rfl, rfl, SqL.of hl5, atI_nat e, _, h5, small1000 (by rw [tv_len]; omega), ?_, K15.mut hD, t ++ [o], ?_, by simp [htl], fun p y hp => ?_⟩
        · obtain ⟨ns, a, b, c, d, e', L, h6, h7⟩ := HA5
          exact ⟨ns, a, b, c, d, e', ⟨by rw [upd_ne nD]; exact L.h, by rw [upd_ne nsD]; exact L.s, L.n⟩, h6, h7⟩
        · rw [upd_same]
          unfold tv
          simp
        · rw [g_snoc] at hp
          by_cases q : p = t.length
          · rw [if_pos q] at hp
            exact hb y hp
          · rw [if_neg q] at hp
            exact htb p y hp
      refine ⟨_, _, rfl, rfl, .inr ⟨_, rfl, ?_⟩⟩
      by_cases hz : 0 < z
      · rw [decide_eq_true hz]
        exact fin 1 none rfl fun y h => by cases h
      · rw [decide_eq_false hz]
        exact fin 0 (some u) rfl fun y h => by cases h; omega
    · rintro H2 ⟨HA2, K2, t, h2, htl, htb⟩
      exact kk H2 D t HA2 (K1.trans K2) nD.symm h2 htl htb
end
end Tr


set_option Elab.async false
set_option linter.all false
set_option maxRecDepth 100000
set_option maxHeartbeats 4000000
/-! the law's less, moved, state; deeds, what they make of a state, done to a keeper -/
namespace Tr
open PySem PySem.Spec PyProof.Rows L2
/-- a deed -/
inductive Dd where
  | lay (l : Int) (s e : Nat) (c : Int)
  | lift (l : Int)
  | turn (l c : Int)
  | refill (S : Int)
  | aim (t : Tb)
def DdAt (H : Hp) (a : Addr) : Dd → Prop
  | .lay l s e c => ∃ ta, H a = some (.tup [.str "lay", .ref ta]) ∧ H ta = some (.lst [.int l, .int (s : Int), .int (e : Int), .int c])
  | .lift l => ∃ ta, H a = some (.tup [.str "lift", .ref ta]) ∧ H ta = some (.lst [.int l])
  | .turn l c => ∃ ta, H a = some (.tup [.str "turn", .ref ta]) ∧ H ta = some (.lst [.int l, .int c])
  | .refill S => ∃ ta, H a = some (.tup [.str "refill", .ref ta]) ∧ H ta = some (.lst [.int S])
  | .aim t => ∃ ta ga, H a = some (.tup [.str "aim", .ref ta]) ∧ H ta = some (.lst [.ref ga]) ∧ H ga = some (.lst (tv t))
theorem DdAt.mono {H H' : Hp} {a : Addr} {D : Dd} (h : DdAt H a D) (kl : ∀ b xs, H b = some (.lst xs) → H' b = some (.lst xs)) (kt : ∀ b xs, H b = some (.tup xs) → H' b = some (.tup xs)) : DdAt H' a D := by
  cases D with
  | lay l s e c => obtain ⟨ta, h1, h2⟩ := h; exact ⟨ta, kt _ _ h1, kl _ _ h2⟩
  | lift l => obtain ⟨ta, h1, h2⟩ := h; exact ⟨ta, kt _ _ h1, kl _ _ h2⟩
  | turn l c => obtain ⟨ta, h1, h2⟩ := h; exact ⟨ta, kt _ _ h1, kl _ _ h2⟩
  | refill S => obtain ⟨ta, h1, h2⟩ := h; exact ⟨ta, kt _ _ h1, kl _ _ h2⟩
  | aim t => obtain ⟨ta, ga, h1, h2, h3⟩ := h; exact ⟨ta, ga, kt _ _ h1, kl _ _ h2, kl _ _ h3⟩
theorem DdAt.same {H H' : Hp} {a : Addr} {D : Dd} (h : DdAt H a D) (s : Same H H') : DdAt H' a D := h.mono (fun _ _ e => s _ _ e) (fun _ _ e => s _ _ e)
/-- a keeper's own objects are no lists -/
theorem Keep.lists {H H' : Hp} {p d : Addr} (k : Keep [p, d] H H') (hp : ∃ C dx fs, H p = some (.ins C dx fs)) (hd : ∃ kvs, H d = some (.dK kvs)) : ∀ b xs, H b = some (.lst xs) → H' b = some (.lst xs) := fun b xs e => by
  obtain ⟨C, dx, fs, hp⟩ := hp
  obtain ⟨kvs, hd⟩ := hd
  refine k.1 b _ e fun hm => ?_
  simp only [List.mem_cons, List.not_mem_nil, or_false] at hm
  rcases hm with r | r
  · rw [r, hp] at e; cases e
  · rw [r, hd] at e; cases e
theorem KA.objs {C hd : Addr} {H : Hp} {p d : Addr} {n : Nat} {S : Int} {goal : Tb} {M : Mp} {known : Tb} (h : KA C hd H p d n S goal M known) : (∃ C dx fs, H p = some (.ins C dx fs)) ∧ ∃ kvs, H d = some (.dK kvs) := by
  obtain ⟨dx, ga, ka, kvs, I⟩ := h
  exact ⟨⟨_, _, _, I.ob⟩, _, I.di.ob⟩
theorem KA.same {C hd : Addr} {H H' : Hp} {p d : Addr} {n : Nat} {S : Int} {goal : Tb} {M : Mp} {known : Tb} (h : KA C hd H p d n S goal M known) (s : Same H H') : KA C hd H' p d n S goal M known := by
  obtain ⟨dx, ga, ka, kvs, I⟩ := h
  exact ⟨dx, ga, ka, kvs, I.same s⟩
/-- may be done -/
def DdOk (n : Nat) (S : Int) (goal : Tb) (M : Mp) : Dd → Prop
  | .lay l s e c => lk M l = none ∧ M.length ≤ 8 ∧ 1 ≤ l ∧ l ≤ 1000000000000000000 ∧ s < n ∧ e < n ∧ -1000000000000000000 ≤ c ∧ c ≤ 1000000000000000000
  | .lift l => ∃ v, lk M l = some v
  | .turn l c => (∃ v, lk M l = some v) ∧ -1000000000000000000 ≤ c ∧ c ≤ 1000000000000000000
  | .refill S' => KOk n S' goal M
  | .aim t => KOk n S t M
def appS : Dd → Int → Int
  | .refill S', _ => S'
  | _, S => S
def appG : Dd → Tb → Tb
  | .aim t, _ => t
  | _, goal => goal
def appM : Dd → Mp → Mp
  | .lay l s e c, M => insM l (s, e, c) M
  | .lift l, M => delM l M
  | .turn l c, M => match lk M l with
    | some v => insM l (v.1, v.2.1, c) M
    | none => M
  | _, M => M
theorem KOk.turn {n : Nat} {S : Int} {goal : Tb} {M : Mp} (O : KOk n S goal M) {l c : Int} {v : W3} (hv : lk M l = some v) (hc : -1000000000000000000 ≤ c ∧ c ≤ 1000000000000000000) : KOk n S goal (insM l (v.1, v.2.1, c) M) := by
  have hlm : l ∈ M.map (·.1) := Classical.byContradiction fun hn => by rw [lk_none.mpr hn] at hv; cases hv
  have hvm := O.wk v (List.mem_map.mpr ⟨_, lk_mem hv, rfl⟩)
  exact O.ins (O.label hv) hvm.1 hvm.2 hc (by rw [ins_len_old O.srt hlm]; exact O.ml)
theorem KOk.app {n : Nat} {S : Int} {goal : Tb} {M : Mp} (O : KOk n S goal M) {D : Dd} (h : DdOk n S goal M D) : KOk n (appS D S) (appG D goal) (appM D M) := by
  cases D with
  | lay l s e c =>
    obtain ⟨h1, h2, h3, h4, h5, h6, h7, h8⟩ := h
    exact O.ins ⟨h3, h4⟩ h5 h6 ⟨h7, h8⟩ (by rw [ins_len_new h1]; omega)
  | lift l => exact O.del
  | turn l c =>
    obtain ⟨⟨v, hv⟩, hc⟩ := h
    show KOk n S goal (match lk M l with | some v => insM l (v.1, v.2.1, c) M | none => M)
    rw [hv]
    exact O.turn hv hc
  | refill S' => exact h
  | aim t => exact h
/-- the law's own state -/
structure StAt (hd : Addr) (H : Hp) (s : Addr) (n : Nat) (S : Int) (goal : Tb) (M : Mp) (d ga : Addr) (kvs : List (Key × V)) : Prop where
  l : H s = some (.lst [.int (n : Int), .int S, .ref ga, .ref d])
  g : H ga = some (.lst (tv goal))
  d : DictAt H d M kvs
  n1 : s ≠ hd
  n2 : ga ≠ hd
def SA (hd : Addr) (H : Hp) (s : Addr) (n : Nat) (S : Int) (goal : Tb) (M : Mp) (d : Addr) : Prop := ∃ ga kvs, StAt hd H s n S goal M d ga kvs
theorem StAt.keep {ds : List Addr} {hd : Addr} {H H' : Hp} {s : Addr} {n : Nat} {S : Int} {goal : Tb} {M : Mp} {d ga : Addr} {kvs : List (Key × V)} (h : StAt hd H s n S goal M d ga kvs) (k : Keep ds H H') (h1 : ¬ s ∈ ds) (h2 : ¬ ga ∈ ds) (h3 : ¬ d ∈ ds) : StAt hd H' s n S goal M d ga kvs :=
  ⟨k.1 _ _ h.l h1, k.1 _ _ h.g h2, h.d.keep k h3, h.n1, h.n2⟩
theorem SA.same {hd : Addr} {H H' : Hp} {s : Addr} {n : Nat} {S : Int} {goal : Tb} {M : Mp} {d : Addr} (h : SA hd H s n S goal M d) (k : Same H H') : SA hd H' s n S goal M d := by
  obtain ⟨ga, kvs, I⟩ := h
  exact ⟨ga, kvs, I.keep (ds := []) k.keep (by simp) (by simp) (by simp)⟩
/-- a draw leaves it -/
theorem SA.hand {hd : Addr} {H H' : Hp} {s : Addr} {n : Nat} {S : Int} {goal : Tb} {M : Mp} {d : Addr} (h : SA hd H s n S goal M d) (k : Keep [hd] H H') (hh : ∃ xs, H hd = some (.lst xs)) : SA hd H' s n S goal M d := by
  obtain ⟨ga, kvs, I⟩ := h
  obtain ⟨xs, e⟩ := hh
  refine ⟨ga, kvs, I.keep k (by simpa using I.n1) (by simpa using I.n2) fun hm => ?_⟩
  have := I.d.ob
  rw [List.mem_singleton.mp hm, e] at this
  cases this
/-- a deed of the keeper leaves it -/
theorem SA.deed {hd : Addr} {H H' : Hp} {s : Addr} {n : Nat} {S : Int} {goal : Tb} {M : Mp} {d p dk : Addr} (h : SA hd H s n S goal M d) (k : Keep [p, dk] H H') (hp : ∃ C dx fs, H p = some (.ins C dx fs)) (hd' : ∃ kvs, H dk = some (.dK kvs)) (hn : d ≠ dk) : SA hd H' s n S goal M d := by
  obtain ⟨ga, kvs, I⟩ := h
  have kl := k.lists hp hd'
  obtain ⟨C, dx, fs, hp⟩ := hp
  refine ⟨ga, kvs, kl _ _ I.l, kl _ _ I.g, I.d.keep k fun hm => ?_, I.n1, I.n2⟩
  simp only [List.mem_cons, List.not_mem_nil, or_false] at hm
  rcases hm with r | r
  · have := I.d.ob
    rw [r, hp] at this
    cases this
  · exact hn r
section
variable {P : Program} {w : World} {K : PySem.W.Frag} {mg : Str → Option Value} {base : Heap} {C : Addr}

abbrev sLLess : Stmt := top 54
theorem scLLess : FnScope ["_law_one", "_law_other"] ["_law_one", "_law_other"] (defScope sLLess) := ⟨rfl, rfl, rfl, by decide +kernel, rfl, by decide +kernel, by decide +kernel⟩
theorem cal_lLess (D : Dfn K mg "_law_less" sLLess) : Cal P w K mg base "_law_less" 1 ["_law_one", "_law_other"] spIsLess := by
  obtain ⟨f, fd, F, m⟩ := D
  refine ⟨f, fd, F.ok scLLess (fun vs H Q E h => ?_) (fun cdv A outer s H vs Q E hr h => ?_), m, F.kp, F.binds fun _ _ _ _ _ _ us hl => match us, hl with | [_, _], _ => rfl⟩
  · obtain ⟨a, b, rfl, _⟩ := h
    rfl
  · obtain ⟨a, b, rfl, k⟩ := h
    refine ⟨_, pss_cons (ps_if (pt_cmpR op_isN1 (pv 0) pe_non (nomark _)) (pss_one (ps_ret pe_bl)) pss_nil) (pss_one (ps_ret (pe_or (pe_cmpR op_isN1 (pv 1) pe_non (nomark _)) (pe_one (pe_cmpR op_lt (pv 0) (pv 1) (nomark _)))))), ?_⟩
    exact less_run (S := sIsLess) k

abbrev sMoved : Stmt := top 55
abbrev nMoved : List Str := ["_law_old", "_law_new", "_law_fell", "_law_place"]
theorem scMoved : FnScope nMoved ["_law_old", "_law_new"] (defScope sMoved) := ⟨rfl, rfl, rfl, by decide +kernel, rfl, by decide +kernel, by decide +kernel⟩
def spMoved : Sp := fun vs H Q _ => ∃ (a b : Addr) (old new : Tb) (n : Nat), vs = [.ref a, .ref b] ∧ H a = some (.lst (tv old)) ∧ H b = some (.lst (tv new)) ∧ old.length = n ∧ new.length = n ∧ n ≤ 100 ∧
  ∀ H' tp fa ra, Same H H' → H' tp = some (.tup [.ref fa, .ref ra]) → H' fa = some (.lst (iv (movedL n new old))) → H' ra = some (.lst (iv (movedL n old new))) → Q (.ref tp) H'
set_option maxHeartbeats 16000000 in
theorem cal_moved (T : Blt mg) (C2 : Cal P w K mg base "_law_less" 1 ["_law_one", "_law_other"] spIsLess) (D : Dfn K mg "_law_moved" sMoved) : Cal P w K mg base "_law_moved" 2 ["_law_old", "_law_new"] spMoved := by
  obtain ⟨f, fd, F, m⟩ := D
  obtain ⟨f2, fd2, G2, m2, k2, b2⟩ := C2
  refine ⟨f, fd, F.ok scMoved (fun vs H Q E h => ?_) (fun cdv A outer s H vs Q E hr h => ?_), m, F.kp, F.binds fun _ _ _ _ _ _ us hl => match us, hl with | [_, _], _ => rfl⟩
  · obtain ⟨a, b, old, new, n, rfl, _⟩ := h
    rfl
  · obtain ⟨a, b, old, new, n, rfl, ha, hb, hol, hnl, hn, k⟩ := h
    refine ⟨_, pss_cons (ps_setLc (i := 2) (own := [("_law_place", 3)]) (g := gName 3) (tt := tB (tCall spIsLess [] E0 (tCons (tOp (rIxL K) (tVar 1) (tVar 3)) (tCons (tOp (rIxL K) (tVar 0) (tVar 3)) tNil)))) (te := tVar 3) rfl scMoved.nd rfl rfl (sw_true rfl rfl rfl (by decide +kernel))
        (pi_range1 (by rfl) T.range (pa_cons (pe_callB call_len_seq (by rfl) T.len PySem.boot_len (pa_cons (pv 0) pa_nil)) pa_nil))
        (blkOk_by (N := nMoved) (sc := defScope sMoved) (by decide +kernel)) (fun _ _ _ _ _ => pg_name (i := 3) scMoved.nd rfl (Or.inl rfl)) (fun _ _ _ _ _ => pts_one (pt_val (pe_call G2 hr rfl m2 k2 b2 .nil pass0 (pa_cons (pe_ix ix_list (pv 1) (pv 3) (fun _ _ => rfl)) (pa_cons (pe_ix ix_list (pv 0) (pv 3) (fun _ _ => rfl)) pa_nil))))) (fun _ _ _ _ _ => pv 3))
      (pss_one (ps_ret (pe_tup (pa_cons (pv 2) (pa_cons (pe_lc (own := [("_law_place", 3)]) (g := gName 3) (tt := tB (tCall spIsLess [] E0 (tCons (tOp (rIxL K) (tVar 0) (tVar 3)) (tCons (tOp (rIxL K) (tVar 1) (tVar 3)) tNil)))) (te := tVar 3) rfl scMoved.nd
        (pi_range1 (by rfl) T.range (pa_cons (pe_callB call_len_seq (by rfl) T.len PySem.boot_len (pa_cons (pv 0) pa_nil)) pa_nil))
        (blkOk_by (N := nMoved) (sc := defScope sMoved) (by decide +kernel)) (fun _ _ _ _ _ => pg_name (i := 3) scMoved.nd rfl (Or.inl rfl)) (fun _ _ _ _ _ => pts_one (pt_val (pe_call G2 hr rfl m2 k2 b2 .nil pass0 (pa_cons (pe_ix ix_list (pv 0) (pv 3) (fun _ _ => rfl)) (pa_cons (pe_ix ix_list (pv 1) (pv 3) (fun _ _ => rfl)) pa_nil))))) (fun _ _ _ _ _ => pv 3)) pa_nil))))), ?_⟩
    refine ⟨_, rfl, a, _, rfl, .inl (SqL.of ha), _, rfl, by rw [tv_len]; omega, by rw [tv_len]; omega, fun fa hfa => ?_⟩
    have en : (((tv old).length : Int)).toNat = n := by rw [tv_len]; omega
    rw [en]
    refine lc_range (lo := 0) (n := n) (fun i H4 => Same H H4 ∧ H4 fa = some (.lst (iv ((List.range i).filter fun p => lessB (g new p) (g old p))))) ⟨Same.new hfa, upd_same⟩ ?_ ?_
    · rintro i H4 hi ⟨s4, h4⟩
      refine ⟨rfl, _, rfl, _, rfl, b, _, _, _, rfl, rfl, SqL.of (s4 _ _ hb), at_of (j := i) (by omega) (tv_at (by omega)), _, rfl, _, rfl, a, _, _, _, rfl, rfl, SqL.of (s4 _ _ ha), at_of (j := i) (by omega) (tv_at (by omega)), ?_⟩
      refine ⟨_, _, rfl, _, rfl, ?_⟩
      cases hb : lessB (g new i) (g old i) with
      | true =>
        refine iteT ⟨_, rfl, _, h4, small1000 ?_, s4.mut hfa, ?_⟩
        · rw [iv_len]
          have := List.length_filter_le (fun p => lessB (g new p) (g old p)) (List.range i)
          rw [List.length_range] at this
          omega
        · rw [upd_same, List.range_succ, List.filter_append]
          unfold iv
          rw [List.map_append]
          simp [hb]
      | false =>
        refine iteF ⟨s4, ?_⟩
        rw [h4, List.range_succ, List.filter_append]
        unfold iv
        rw [List.map_append]
        simp [hb]
    rintro H4 ⟨s4, h4⟩
    have ha4 := s4 _ _ ha
    have hb4 := s4 _ _ hb
    refine ⟨_, rfl, _, rfl, a, _, rfl, .inl (SqL.of ha4), _, rfl, by rw [tv_len]; omega, by rw [tv_len]; omega, fun ra hra => ?_⟩
    rw [en]
    refine lc_range (lo := 0) (n := n) (fun i H5 => Same H4 H5 ∧ H5 ra = some (.lst (iv ((List.range i).filter fun p => lessB (g old p) (g new p))))) ⟨Same.new hra, upd_same⟩ ?_ ?_
    · rintro i H5 hi ⟨s5, h5⟩
      refine ⟨rfl, _, rfl, _, rfl, a, _, _, _, rfl, rfl, SqL.of (s5 _ _ ha4), at_of (j := i) (by omega) (tv_at (by omega)), _, rfl, _, rfl, b, _, _, _, rfl, rfl, SqL.of (s5 _ _ hb4), at_of (j := i) (by omega) (tv_at (by omega)), ?_⟩
      refine ⟨_, _, rfl, _, rfl, ?_⟩
      cases hb : lessB (g old i) (g new i) with
      | true =>
        refine iteT ⟨_, rfl, _, h5, small1000 ?_, s5.mut hra, ?_⟩
        · rw [iv_len]
          have := List.length_filter_le (fun p => lessB (g old p) (g new p)) (List.range i)
          rw [List.length_range] at this
          omega
        · rw [upd_same, List.range_succ, List.filter_append]
          unfold iv
          rw [List.map_append]
          simp [hb]
      | false =>
        refine iteF ⟨s5, ?_⟩
        rw [h5, List.range_succ, List.filter_append]
        unfold iv
        rw [List.map_append]
        simp [hb]
    rintro H5 ⟨s5, h5⟩
    refine ⟨(by show 2 ≤ sizeLine; decide), fun tp htp => ?_⟩
    have s6 : Same H5 (upd H5 tp (.tup [.ref fa, .ref ra])) := Same.new htp
    exact k _ tp fa ra ((s4.trans s5).trans s6) upd_same (s6 _ _ (s5 _ _ h4)) (s6 _ _ h5)

abbrev sState : Stmt := top 56
abbrev nState : List Str := ["_law_many", "_law_store_here", "_law_goal"]
theorem scState : FnScope nState nState (defScope sState) := ⟨rfl, rfl, rfl, by decide +kernel, rfl, by decide +kernel, by decide +kernel⟩
def spState : Sp := fun vs H Q _ => ∃ (hd a : Addr) (n : Nat) (S : Int) (goal : Tb), vs = [.int (n : Int), .int S, .ref a] ∧ H a = some (.lst (tv goal)) ∧ (∃ xs, H hd = some (.lst xs)) ∧ ∀ H' s d, Same H H' → SA hd H' s n S goal [] d → Q (.ref s) H'
theorem cal_state (T : Blt mg) (D : Dfn K mg "_law_state" sState) : Cal P w K mg base "_law_state" 1 nState spState := by
  obtain ⟨f, fd, F, m⟩ := D
  refine ⟨f, fd, F.ok scState (fun vs H Q E h => ?_) (fun cdv A outer s H vs Q E hr h => ?_), m, F.kp, F.binds fun _ _ _ _ _ _ us hl => match us, hl with | [_, _, _], _ => rfl⟩
  · obtain ⟨hd, a, n, S, goal, rfl, _⟩ := h
    rfl
  · obtain ⟨hd, a, n, S, goal, rfl, ha, ⟨xs, hh⟩, k⟩ := h
    refine ⟨_, pss_one (ps_ret (pe_lst (pa_cons (pv 0) (pa_cons (pv 1) (pa_cons (pe_callTy call_list_of (by rfl) T.list (by decide +kernel) (pa_cons (pv 2) pa_nil)) (pa_cons pe_dnewK pa_nil)))))), ?_⟩
    refine ⟨_, rfl, _, rfl, _, rfl, a, _, rfl, .inl (SqL.of ha), fun ga hga => ?_⟩
    intro d hd'
    refine ⟨(by show 4 ≤ sizeLine; decide), fun s' hs' => ?_⟩
    have s1 : Same H (upd H ga (.lst (tv goal))) := Same.new hga
    have s2 : Same (upd H ga (.lst (tv goal))) (upd (upd H ga (.lst (tv goal))) d (.dK [])) := Same.new hd'
    have s3 : Same (upd (upd H ga (.lst (tv goal))) d (.dK [])) (upd (upd (upd H ga (.lst (tv goal))) d (.dK [])) s' (.lst [.int (n : Int), .int S, .ref ga, .ref d])) := Same.new hs'
    have ngh : ga ≠ hd := (ne_of_none hh hga).symm
    have nsh : s' ≠ hd := (ne_of_none (s2 _ _ (s1 _ _ hh)) hs').symm
    exact k _ s' d ((s1.trans s2).trans s3) ⟨ga, [], upd_same, s3 _ _ (s2 _ _ upd_same), DictAt.empty (s3 _ _ upd_same), nsh, ngh⟩
end
end Tr


set_option Elab.async false
set_option linter.all false
set_option maxRecDepth 100000
set_option maxHeartbeats 4000000
/-! what a deed makes of a state; a deed done (printed by genW14.py) -/
namespace Tr
open PySem PySem.Spec PyProof.Rows L2

theorem w_lay_lift : ¬ (V.str ("lay" : Str) = V.str ("lift" : Str)) := fun h => absurd (V.str.inj h) (by decide +kernel)
theorem w_lay_turn : ¬ (V.str ("lay" : Str) = V.str ("turn" : Str)) := fun h => absurd (V.str.inj h) (by decide +kernel)
theorem w_lay_refill : ¬ (V.str ("lay" : Str) = V.str ("refill" : Str)) := fun h => absurd (V.str.inj h) (by decide +kernel)
theorem w_lay_aim : ¬ (V.str ("lay" : Str) = V.str ("aim" : Str)) := fun h => absurd (V.str.inj h) (by decide +kernel)
theorem w_lift_lay : ¬ (V.str ("lift" : Str) = V.str ("lay" : Str)) := fun h => absurd (V.str.inj h) (by decide +kernel)
theorem w_lift_turn : ¬ (V.str ("lift" : Str) = V.str ("turn" : Str)) := fun h => absurd (V.str.inj h) (by decide +kernel)
theorem w_lift_refill : ¬ (V.str ("lift" : Str) = V.str ("refill" : Str)) := fun h => absurd (V.str.inj h) (by decide +kernel)
theorem w_lift_aim : ¬ (V.str ("lift" : Str) = V.str ("aim" : Str)) := fun h => absurd (V.str.inj h) (by decide +kernel)
theorem w_turn_lay : ¬ (V.str ("turn" : Str) = V.str ("lay" : Str)) := fun h => absurd (V.str.inj h) (by decide +kernel)
theorem w_turn_lift : ¬ (V.str ("turn" : Str) = V.str ("lift" : Str)) := fun h => absurd (V.str.inj h) (by decide +kernel)
theorem w_turn_refill : ¬ (V.str ("turn" : Str) = V.str ("refill" : Str)) := fun h => absurd (V.str.inj h) (by decide +kernel)
theorem w_turn_aim : ¬ (V.str ("turn" : Str) = V.str ("aim" : Str)) := fun h => absurd (V.str.inj h) (by decide +kernel)
theorem w_refill_lay : ¬ (V.str ("refill" : Str) = V.str ("lay" : Str)) := fun h => absurd (V.str.inj h) (by decide +kernel)
theorem w_refill_lift : ¬ (V.str ("refill" : Str) = V.str ("lift" : Str)) := fun h => absurd (V.str.inj h) (by decide +kernel)
theorem w_refill_turn : ¬ (V.str ("refill" : Str) = V.str ("turn" : Str)) := fun h => absurd (V.str.inj h) (by decide +kernel)
theorem w_refill_aim : ¬ (V.str ("refill" : Str) = V.str ("aim" : Str)) := fun h => absurd (V.str.inj h) (by decide +kernel)
theorem w_aim_lay : ¬ (V.str ("aim" : Str) = V.str ("lay" : Str)) := fun h => absurd (V.str.inj h) (by decide +kernel)
theorem w_aim_lift : ¬ (V.str ("aim" : Str) = V.str ("lift" : Str)) := fun h => absurd (V.str.inj h) (by decide +kernel)
theorem w_aim_turn : ¬ (V.str ("aim" : Str) = V.str ("turn" : Str)) := fun h => absurd (V.str.inj h) (by decide +kernel)
theorem w_aim_refill : ¬ (V.str ("aim" : Str) = V.str ("refill" : Str)) := fun h => absurd (V.str.inj h) (by decide +kernel)
section
variable {P : Program} {w : World} {K : PySem.W.Frag} {mg : Str → Option Value} {base : Heap} {C : Addr}

abbrev sAfter : Stmt := top 59
abbrev nAfter : List Str := ["_law_state_here", "_law_deed_here", "_law_word", "_law_things", "_law_ways", "_law_after_here"]
theorem scAfter : FnScope nAfter ["_law_state_here", "_law_deed_here"] (defScope sAfter) := ⟨rfl, rfl, rfl, by decide +kernel, rfl, by decide +kernel, by decide +kernel⟩
def spAfter : Sp := fun vs H Q _ => ∃ (hd s a d : Addr) (n : Nat) (S : Int) (goal : Tb) (M : Mp) (D : Dd), vs = [.ref s, .ref a] ∧ (∃ xs, H hd = some (.lst xs)) ∧ SA hd H s n S goal M d ∧ DdAt H a D ∧ Srt M ∧ M.length ≤ 100 ∧ DdOk n S goal M D ∧
  ∀ H' s' d', Same H H' → H d' = none → SA hd H' s' n (appS D S) (appG D goal) (appM D M) d' → Q (.ref s') H'
set_option maxHeartbeats 32000000 in
theorem cal_after (T : Blt mg) (D : Dfn K mg "_law_after" sAfter) : Cal P w K mg base "_law_after" 1 ["_law_state_here", "_law_deed_here"] spAfter := by
  obtain ⟨f, fd, F, m⟩ := D
  refine ⟨f, fd, F.ok scAfter (fun vs H Q E h => ?_) (fun cdv A outer s H vs Q E hr h => ?_), m, F.kp, F.binds fun _ _ _ _ _ _ us hl => match us, hl with | [_, _], _ => rfl⟩
  · obtain ⟨hd, s, a, d, n, S, goal, M, D, rfl, _⟩ := h
    rfl
  · obtain ⟨hd, s, a, d, n, S, goal, M, D, rfl, ⟨xh, hh⟩, ⟨ga, kvs, I⟩, hD, hs, hml, ok, k⟩ := h
    have hu := hu_of hr
    refine ⟨_, pss_cons (ps_asg (pv 1) (pg_tup rfl (pgs_cons (pg_name (i := 2) scAfter.nd rfl (Or.inl rfl)) (pgs_cons (pg_name (i := 3) scAfter.nd rfl (Or.inl rfl)) pgs_nil))))
      (pss_cons (ps_set (i := 4) scAfter.nd rfl (.inl rfl) (pe_callTy call_dictD (by rfl) T.dict (by decide +kernel) (pa_cons (pe_ix ix_list (pv 0) pe_int (fun _ _ => rfl)) pa_nil)))
      (pss_cons (ps_set (i := 5) scAfter.nd rfl (.inl rfl) (pe_lst (pa_cons (pe_ix ix_list (pv 0) pe_int (fun _ _ => rfl)) (pa_cons (pe_ix ix_list (pv 0) pe_int (fun _ _ => rfl)) (pa_cons (pe_callTy call_list_of (by rfl) T.list (by decide +kernel) (pa_cons (pe_ix ix_list (pv 0) pe_int (fun _ _ => rfl)) pa_nil)) (pa_cons (pv 4) pa_nil))))))
      (pss_cons (ps_if (pt_cmpR op_eq (pv 2) pe_str (nomark _)) (pss_one (ps_dput hu (pv 4) (pe_ix ix_list (pv 3) pe_int (fun _ _ => rfl)) (pe_tup (pa_cons (pe_ix ix_list (pv 3) pe_int (fun _ _ => rfl)) (pa_cons (pe_ix ix_list (pv 3) pe_int (fun _ _ => rfl)) (pa_cons (pe_ix ix_list (pv 3) pe_int (fun _ _ => rfl)) pa_nil)))) rfl)) pss_nil)
      (pss_cons (ps_if (pt_cmpR op_eq (pv 2) pe_str (nomark _)) (pss_one (ps_expr (pe_dpop1 (pv 4) (pe_ix ix_list (pv 3) pe_int (fun _ _ => rfl)) ⟨rfl, rfl, rfl, rfl⟩))) pss_nil)
      (pss_cons (ps_if (pt_cmpR op_eq (pv 2) pe_str (nomark _)) (pss_one (ps_dput hu (pv 4) (pe_ix ix_list (pv 3) pe_int (fun _ _ => rfl)) (pe_tup (pa_cons (pe_ix ix_tup (pe_dget hu (pv 4) (pe_ix ix_list (pv 3) pe_int (fun _ _ => rfl)) (fun _ _ => rfl)) pe_int (fun _ _ => rfl))
          (pa_cons (pe_ix ix_tup (pe_dget hu (pv 4) (pe_ix ix_list (pv 3) pe_int (fun _ _ => rfl)) (fun _ _ => rfl)) pe_int (fun _ _ => rfl)) (pa_cons (pe_ix ix_list (pv 3) pe_int (fun _ _ => rfl)) pa_nil)))) rfl)) pss_nil)
      (pss_cons (ps_if (pt_cmpR op_eq (pv 2) pe_str (nomark _)) (pss_one (ps_asg (pe_ix ix_list (pv 3) pe_int (fun _ _ => rfl)) (pg_sub (pv 5) pe_int set_list))) pss_nil)
      (pss_cons (ps_if (pt_cmpR op_eq (pv 2) pe_str (nomark _)) (pss_one (ps_asg (pe_callTy call_list_of (by rfl) T.list (by decide +kernel) (pa_cons (pe_ix ix_list (pv 3) pe_int (fun _ _ => rfl)) pa_nil)) (pg_sub (pv 5) pe_int set_list))) pss_nil)
      (pss_one (ps_ret (pv 5)))))))))), ?_⟩
    obtain ⟨wd, ta, hDa, hta⟩ : ∃ (wd : Str) (ta : Addr), H a = some (.tup [.str wd, .ref ta]) ∧ ∃ xs, H ta = some (.lst xs) := by
      cases D with
      | lay l s e c => obtain ⟨ta, h1, h2⟩ := hD; exact ⟨_, ta, h1, _, h2⟩
      | lift l => obtain ⟨ta, h1, h2⟩ := hD; exact ⟨_, ta, h1, _, h2⟩
      | turn l c => obtain ⟨ta, h1, h2⟩ := hD; exact ⟨_, ta, h1, _, h2⟩
      | refill S => obtain ⟨ta, h1, h2⟩ := hD; exact ⟨_, ta, h1, _, h2⟩
      | aim t => obtain ⟨ta, ga, h1, h2, h3⟩ := hD; exact ⟨_, ta, h1, _, h2⟩
    -- word, things = deed; ways = dict(state[3])
    refine ⟨_, rfl, a, _, rfl, SqT.of hDa, rfl, _, _, rfl, _, _, rfl, rfl, ?_⟩
    refine ⟨_, rfl, s, _, 3, _, rfl, rfl, SqL.of I.l, atI_nat (j := 3) rfl, d, kvs, rfl, .inl I.d.ob, fun d' hd' => ?_⟩
    have s1 : Same H (upd H d' (.dK kvs)) := Same.new hd'
    have D1 : DictAt (upd H d' (.dK kvs)) d' M kvs := I.d.copy hd'
    generalize upd H d' (.dK kvs) = H1 at s1 D1 ⊢
    -- after = [state[0], state[1], list(state[2]), ways]
    refine ⟨_, rfl, s, _, 0, _, rfl, rfl, SqL.of (s1 _ _ I.l), atI_nat (j := 0) rfl, _, rfl, s, _, 1, _, rfl, rfl, SqL.of (s1 _ _ I.l), atI_nat (j := 1) rfl, _, rfl, s, _, 2, _, rfl, rfl, SqL.of (s1 _ _ I.l), atI_nat (j := 2) rfl, ga, _, rfl, .inl (SqL.of (s1 _ _ I.g)), fun gb hgb => ?_⟩
    have s2 : Same H1 (upd H1 gb (.lst (tv goal))) := Same.new hgb
    refine ⟨_, rfl, (by show 4 ≤ sizeLine; decide), fun s' hs' => ?_⟩
    have s3 : Same (upd H1 gb (.lst (tv goal))) (upd (upd H1 gb (.lst (tv goal))) s' (.lst [.int (n : Int), .int S, .ref gb, .ref d'])) := Same.new hs'
    have ngh : gb ≠ hd := (ne_of_none (s1 _ _ hh) hgb).symm
    have nsh : s' ≠ hd := (ne_of_none (s2 _ _ (s1 _ _ hh)) hs').symm
    have ngs : gb ≠ s' := ne_of_none upd_same hs'
    have n0s : H s' = none := (s1.trans s2).free hs'
    have sA : Same H (upd (upd H1 gb (.lst (tv goal))) s' (.lst [.int (n : Int), .int S, .ref gb, .ref d'])) := (s1.trans s2).trans s3
    have IA : StAt hd (upd (upd H1 gb (.lst (tv goal))) s' (.lst [.int (n : Int), .int S, .ref gb, .ref d'])) s' n S goal M d' gb kvs := ⟨upd_same, s3 _ _ upd_same, (D1.same s2).same s3, nsh, ngh⟩
    generalize upd (upd H1 gb (.lst (tv goal))) s' (.lst [.int (n : Int), .int S, .ref gb, .ref d']) = HA at sA IA ⊢
    have hDa' := hDa
    cases D with
    | lay l st e c =>
      obtain ⟨ta2, h1, h2⟩ := hD
      rw [hDa] at h1
      cases h1
      have h2A := sA _ _ h2
      refine ⟨_, rfl, rfl, _, rfl, iteY (rfl : V.str ("lay" : Str) = V.str ("lay" : Str)) ?_⟩
      refine ⟨_, rfl, ta, _, 1, _, rfl, rfl, SqL.of h2A, atI_nat (j := 1) rfl, _, rfl, ta, _, 2, _, rfl, rfl, SqL.of h2A, atI_nat (j := 2) rfl, _, rfl, ta, _, 3, _, rfl, rfl, SqL.of h2A, atI_nat (j := 3) rfl, (by show 3 ≤ sizeLine; decide), fun t ht => ?_⟩
      have sT : Same HA (upd HA t (.tup [.int (st : Int), .int (e : Int), .int c])) := Same.new ht
      have et : (upd HA t (.tup [.int (st : Int), .int (e : Int), .int c])) t = some (.tup (wv (st, e, c))) := upd_same
      have IT := IA.keep (ds := []) sT.keep (by simp) (by simp) (by simp)
      have sAT := sA.trans sT
      have h2T := sT _ _ h2A
      generalize upd HA t (.tup [.int (st : Int), .int (e : Int), .int c]) = HT at sT et IT sAT h2T ⊢
      refine ⟨_, rfl, _, rfl, ta, _, 0, _, rfl, rfl, SqL.of h2T, atI_nat (j := 0) rfl, d', _, rfl, DPut.k (k := Sum.inl l) IT.d.ob (small1000 (by have := I.d.len; omega)), ?_⟩
      have sF : Same H (upd HT d' (.dK (putK kvs (Sum.inl l) (.ref t)))) := sAT.mut hd'
      have IF : StAt hd (upd HT d' (.dK (putK kvs (Sum.inl l) (.ref t)))) s' n S goal (insM l (st, e, c) M) d' gb (putK kvs (Sum.inl l) (.ref t)) :=
        ⟨by rw [upd_ne (ne_of IT.l IT.d.ob (by intro z; cases z))]; exact IT.l, by rw [upd_ne (ne_of IT.g IT.d.ob (by intro z; cases z))]; exact IT.g, IT.d.put (l := l) hs et, nsh, ngh⟩
      refine ⟨_, rfl, rfl, _, rfl, iteN w_lay_lift ?_⟩
      refine ⟨_, rfl, rfl, _, rfl, iteN w_lay_turn ?_⟩
      refine ⟨_, rfl, rfl, _, rfl, iteN w_lay_refill ?_⟩
      refine ⟨_, rfl, rfl, _, rfl, iteN w_lay_aim ?_⟩
      exact ⟨_, rfl, k _ s' d' sF hd' ⟨_, _, IF⟩⟩
    | lift l =>
      obtain ⟨ta2, h1, h2⟩ := hD
      rw [hDa] at h1
      cases h1
      have h2A := sA _ _ h2
      refine ⟨_, rfl, rfl, _, rfl, iteN w_lift_lay ?_⟩
      refine ⟨_, rfl, rfl, _, rfl, iteY (rfl : V.str ("lift" : Str) = V.str ("lift" : Str)) ?_⟩
      obtain ⟨v, hv⟩ := ok
      obtain ⟨b, e1, e2⟩ := IA.d.yes l v hv
      refine ⟨_, rfl, d', rfl, .inl ⟨_, .inl IA.d.ob⟩, _, rfl, ta, _, 0, _, rfl, rfl, SqL.of h2A, atI_nat (j := 0) rfl, kvs, Sum.inl l, _, IA.d.ob, rfl, e1, ?_⟩
      have sF : Same H (upd HA d' (.dK (dropK kvs (Sum.inl l)))) := sA.mut hd'
      have IF : StAt hd (upd HA d' (.dK (dropK kvs (Sum.inl l)))) s' n S goal (delM l M) d' gb (dropK kvs (Sum.inl l)) :=
        ⟨by rw [upd_ne (ne_of IA.l IA.d.ob (by intro z; cases z))]; exact IA.l, by rw [upd_ne (ne_of IA.g IA.d.ob (by intro z; cases z))]; exact IA.g, IA.d.drop hs hv, nsh, ngh⟩
      refine ⟨_, rfl, rfl, _, rfl, iteN w_lift_turn ?_⟩
      refine ⟨_, rfl, rfl, _, rfl, iteN w_lift_refill ?_⟩
      refine ⟨_, rfl, rfl, _, rfl, iteN w_lift_aim ?_⟩
      exact ⟨_, rfl, k _ s' d' sF hd' ⟨_, _, IF⟩⟩
    | turn l c =>
      obtain ⟨ta2, h1, h2⟩ := hD
      rw [hDa] at h1
      cases h1
      have h2A := sA _ _ h2
      refine ⟨_, rfl, rfl, _, rfl, iteN w_turn_lay ?_⟩
      refine ⟨_, rfl, rfl, _, rfl, iteN w_turn_lift ?_⟩
      refine ⟨_, rfl, rfl, _, rfl, iteY (rfl : V.str ("turn" : Str) = V.str ("turn" : Str)) ?_⟩
      obtain ⟨⟨v, hv⟩, hc⟩ := ok
      obtain ⟨b, e1, e2⟩ := IA.d.yes l v hv
      have gd : DGet HA d' (.int l) (some (.ref b)) := by rw [← e1]; exact DGet.k (k := Sum.inl l) IA.d.ob
      refine ⟨_, rfl, _, rfl, ta, _, 0, _, rfl, rfl, SqL.of h2A, atI_nat (j := 0) rfl, d', .ref b, rfl, gd, b, _, 0, _, rfl, rfl, SqT.of e2, atI_nat (j := 0) rfl, ?_⟩
      refine ⟨_, rfl, _, rfl, ta, _, 0, _, rfl, rfl, SqL.of h2A, atI_nat (j := 0) rfl, d', .ref b, rfl, gd, b, _, 1, _, rfl, rfl, SqT.of e2, atI_nat (j := 1) rfl, ?_⟩
      refine ⟨_, rfl, ta, _, 1, _, rfl, rfl, SqL.of h2A, atI_nat (j := 1) rfl, (by show 3 ≤ sizeLine; decide), fun t ht => ?_⟩
      have sT : Same HA (upd HA t (.tup [.int (v.1 : Int), .int (v.2.1 : Int), .int c])) := Same.new ht
      have et : (upd HA t (.tup [.int (v.1 : Int), .int (v.2.1 : Int), .int c])) t = some (.tup (wv (v.1, v.2.1, c))) := upd_same
      have IT := IA.keep (ds := []) sT.keep (by simp) (by simp) (by simp)
      have sAT := sA.trans sT
      have h2T := sT _ _ h2A
      generalize upd HA t (.tup [.int (v.1 : Int), .int (v.2.1 : Int), .int c]) = HT at sT et IT sAT h2T ⊢
      refine ⟨_, rfl, _, rfl, ta, _, 0, _, rfl, rfl, SqL.of h2T, atI_nat (j := 0) rfl, d', _, rfl, DPut.k (k := Sum.inl l) IT.d.ob (small1000 (by have := I.d.len; omega)), ?_⟩
      have sF : Same H (upd HT d' (.dK (putK kvs (Sum.inl l) (.ref t)))) := sAT.mut hd'
      have IF : StAt hd (upd HT d' (.dK (putK kvs (Sum.inl l) (.ref t)))) s' n S goal (insM l (v.1, v.2.1, c) M) d' gb (putK kvs (Sum.inl l) (.ref t)) :=
        ⟨by rw [upd_ne (ne_of IT.l IT.d.ob (by intro z; cases z))]; exact IT.l, by rw [upd_ne (ne_of IT.g IT.d.ob (by intro z; cases z))]; exact IT.g, IT.d.put (l := l) hs et, nsh, ngh⟩
      refine ⟨_, rfl, rfl, _, rfl, iteN w_turn_refill ?_⟩
      refine ⟨_, rfl, rfl, _, rfl, iteN w_turn_aim ?_⟩
      exact ⟨_, rfl, k _ s' d' sF hd' (by show SA hd _ s' n S goal (match lk M l with | some v => insM l (v.1, v.2.1, c) M | none => M) d'; rw [hv]; exact ⟨_, _, IF⟩)⟩
    | refill S2 =>
      obtain ⟨ta2, h1, h2⟩ := hD
      rw [hDa] at h1
      cases h1
      have h2A := sA _ _ h2
      refine ⟨_, rfl, rfl, _, rfl, iteN w_refill_lay ?_⟩
      refine ⟨_, rfl, rfl, _, rfl, iteN w_refill_lift ?_⟩
      refine ⟨_, rfl, rfl, _, rfl, iteN w_refill_turn ?_⟩
      refine ⟨_, rfl, rfl, _, rfl, iteY (rfl : V.str ("refill" : Str) = V.str ("refill" : Str)) ?_⟩
      refine ⟨_, rfl, ta, _, 0, _, rfl, rfl, SqL.of h2A, atI_nat (j := 0) rfl, _, rfl, s', _, _, 1, rfl, rfl, IA.l, rfl, ?_⟩
      have sF : Same H (upd HA s' (.lst [.int (n : Int), .int S2, .ref gb, .ref d'])) := sA.mut n0s
      have IF : StAt hd (upd HA s' (.lst [.int (n : Int), .int S2, .ref gb, .ref d'])) s' n S2 goal M d' gb kvs :=
        ⟨upd_same, by rw [upd_ne ngs]; exact IA.g, IA.d.keep (ds := [s']) (Keep.put (by simp) IA.l (fun xs z => by cases z)) (fun hm => ne_of IA.d.ob IA.l (by intro z; cases z) (List.mem_singleton.mp hm)), nsh, ngh⟩
      refine ⟨_, rfl, rfl, _, rfl, iteN w_refill_aim ?_⟩
      exact ⟨_, rfl, k _ s' d' sF hd' ⟨_, _, IF⟩⟩
    | aim t =>
      obtain ⟨ta2, gt, h1, h2, h3⟩ := hD
      rw [hDa] at h1
      cases h1
      have h2A := sA _ _ h2
      refine ⟨_, rfl, rfl, _, rfl, iteN w_aim_lay ?_⟩
      refine ⟨_, rfl, rfl, _, rfl, iteN w_aim_lift ?_⟩
      refine ⟨_, rfl, rfl, _, rfl, iteN w_aim_turn ?_⟩
      refine ⟨_, rfl, rfl, _, rfl, iteN w_aim_refill ?_⟩
      refine ⟨_, rfl, rfl, _, rfl, iteY (rfl : V.str ("aim" : Str) = V.str ("aim" : Str)) ?_⟩
      have h3A := sA _ _ h3
      refine ⟨_, rfl, ta, _, 0, _, rfl, rfl, SqL.of h2A, atI_nat (j := 0) rfl, gt, _, rfl, .inl (SqL.of h3A), fun gc hgc => ?_⟩
      have sT : Same HA (upd HA gc (.lst (tv t))) := Same.new hgc
      have IT := IA.keep (ds := []) sT.keep (by simp) (by simp) (by simp)
      have ngc : gc ≠ hd := (ne_of_none (sA _ _ hh) hgc).symm
      have ngcs : gc ≠ s' := (ne_of_none IA.l hgc).symm
      have sAT := sA.trans sT
      have eg : (upd HA gc (.lst (tv t))) gc = some (.lst (tv t)) := upd_same
      generalize upd HA gc (.lst (tv t)) = HT at sT IT sAT eg ⊢
      refine ⟨_, rfl, s', _, _, 2, rfl, rfl, IT.l, rfl, ?_⟩
      have sF : Same H (upd HT s' (.lst [.int (n : Int), .int S, .ref gc, .ref d'])) := sAT.mut n0s
      have IF : StAt hd (upd HT s' (.lst [.int (n : Int), .int S, .ref gc, .ref d'])) s' n S t M d' gc kvs :=
        ⟨upd_same, by rw [upd_ne ngcs]; exact eg, IT.d.keep (ds := [s']) (Keep.put (by simp) IT.l (fun xs z => by cases z)) (fun hm => ne_of IT.d.ob IT.l (by intro z; cases z) (List.mem_singleton.mp hm)), nsh, ngc⟩
      exact ⟨_, rfl, k _ s' d' sF hd' ⟨_, _, IF⟩⟩

abbrev sDo : Stmt := top 60
abbrev nDo : List Str := ["_law_keeper", "_law_deed_here", "_law_word", "_law_things"]
theorem scDo : FnScope nDo ["_law_keeper", "_law_deed_here"] (defScope sDo) := ⟨rfl, rfl, rfl, by decide +kernel, rfl, by decide +kernel, by decide +kernel⟩
def spDo (C : Addr) : Sp := fun vs H Q _ => ∃ (hd p dk a : Addr) (n : Nat) (S : Int) (goal : Tb) (M : Mp) (old : Tb) (D : Dd), vs = [.ref p, .ref a] ∧ KA C hd H p dk n S goal M old ∧ KOk n S goal M ∧ old.length = n ∧ DdAt H a D ∧ DdOk n S goal M D ∧
  ToldK C hd H p dk n (appS D S) (appG D goal) (appM D M) old Q
set_option maxHeartbeats 32000000 in
theorem cal_do (TK : TxtK K C) (M1 : MCal P w K mg base C "lay" 10 nLay (spLay C)) (M2 : MCal P w K mg base C "lift" 10 ["self", "label"] (spLift C)) (M3 : MCal P w K mg base C "turn" 10 ["self", "label", "change"] (spTurn C)) (M4 : MCal P w K mg base C "refill" 10 ["self", "store"] (spRefill C))
    (M5 : MCal P w K mg base C "aim" 10 ["self", "goal"] (spAim C)) (D : Dfn K mg "_law_do" sDo) : Cal P w K mg base "_law_do" 11 ["_law_keeper", "_law_deed_here"] (spDo C) := by
  obtain ⟨f, fd, F, m⟩ := D
  obtain ⟨f1, fd1, G1, m1, b1⟩ := M1
  obtain ⟨f2, fd2, G2, m2, b2⟩ := M2
  obtain ⟨f3, fd3, G3, m3, b3⟩ := M3
  obtain ⟨f4, fd4, G4, m4, b4⟩ := M4
  obtain ⟨f5, fd5, G5, m5, b5⟩ := M5
  refine ⟨f, fd, F.ok scDo (fun vs H Q E h => ?_) (fun cdv A outer s H vs Q E hr h => ?_), m, F.kp, F.binds fun _ _ _ _ _ _ us hl => match us, hl with | [_, _], _ => rfl⟩
  · obtain ⟨hd, p, dk, a, n, S, goal, M, old, D, rfl, _⟩ := h
    rfl
  · obtain ⟨hd, p, dk, a, n, S, goal, M, old, D, rfl, IK, O, hol, hD, ok, k⟩ := h
    refine ⟨_, pss_cons (ps_asg (pv 1) (pg_tup rfl (pgs_cons (pg_name (i := 2) scDo.nd rfl (Or.inl rfl)) (pgs_cons (pg_name (i := 3) scDo.nd rfl (Or.inl rfl)) pgs_nil))))
      (pss_cons (ps_if (pt_cmpR op_eq (pv 2) pe_str (nomark _)) (pss_one (ps_ret (pe_meth (pv 0) TK.cl m1 G1 hr b1 .nil pass0 (pa_cons (pe_ix ix_list (pv 3) pe_int (fun _ _ => rfl)) (pa_cons (pe_ix ix_list (pv 3) pe_int (fun _ _ => rfl)) (pa_cons (pe_ix ix_list (pv 3) pe_int (fun _ _ => rfl)) (pa_cons (pe_ix ix_list (pv 3) pe_int (fun _ _ => rfl)) pa_nil))))))) pss_nil)
      (pss_cons (ps_if (pt_cmpR op_eq (pv 2) pe_str (nomark _)) (pss_one (ps_ret (pe_meth (pv 0) TK.cl m2 G2 hr b2 .nil pass0 (pa_cons (pe_ix ix_list (pv 3) pe_int (fun _ _ => rfl)) pa_nil)))) pss_nil)
      (pss_cons (ps_if (pt_cmpR op_eq (pv 2) pe_str (nomark _)) (pss_one (ps_ret (pe_meth (pv 0) TK.cl m3 G3 hr b3 .nil pass0 (pa_cons (pe_ix ix_list (pv 3) pe_int (fun _ _ => rfl)) (pa_cons (pe_ix ix_list (pv 3) pe_int (fun _ _ => rfl)) pa_nil))))) pss_nil)
      (pss_cons (ps_if (pt_cmpR op_eq (pv 2) pe_str (nomark _)) (pss_one (ps_ret (pe_meth (pv 0) TK.cl m4 G4 hr b4 .nil pass0 (pa_cons (pe_ix ix_list (pv 3) pe_int (fun _ _ => rfl)) pa_nil)))) pss_nil)
      (pss_one (ps_ret (pe_meth (pv 0) TK.cl m5 G5 hr b5 .nil pass0 (pa_cons (pe_ix ix_list (pv 3) pe_int (fun _ _ => rfl)) pa_nil)))))))), ?_⟩
    obtain ⟨dx, ga, ka, kvs, I⟩ := id IK
    cases D with
    | lay l st e c =>
      obtain ⟨ta, h1, h2⟩ := hD
      refine ⟨_, rfl, a, _, rfl, SqT.of h1, rfl, _, _, rfl, _, _, rfl, rfl, ?_⟩
      refine ⟨_, rfl, rfl, _, rfl, iteY (rfl : V.str ("lay" : Str) = V.str ("lay" : Str)) ?_⟩
      obtain ⟨q1, q2, q3, q4, q5, q6, q7, q8⟩ := ok
      exact ⟨_, rfl, p, dx, _, rfl, I.ob, fK_no _ _ _ _ _ _, _, rfl, ta, _, 0, _, rfl, rfl, SqL.of h2, atI_nat (j := 0) rfl, _, rfl, ta, _, 1, _, rfl, rfl, SqL.of h2, atI_nat (j := 1) rfl, _, rfl, ta, _, 2, _, rfl, rfl, SqL.of h2, atI_nat (j := 2) rfl, _, rfl, ta, _, 3, _, rfl, rfl, SqL.of h2, atI_nat (j := 3) rfl, hd, p, dk, n, S, goal, M, old, l, st, e, c, rfl, IK, O, hol, q1, q2, q3, q4, q5, q6, q7, q8, k⟩
    | lift l =>
      obtain ⟨ta, h1, h2⟩ := hD
      refine ⟨_, rfl, a, _, rfl, SqT.of h1, rfl, _, _, rfl, _, _, rfl, rfl, ?_⟩
      refine ⟨_, rfl, rfl, _, rfl, iteN w_lift_lay ?_⟩
      refine ⟨_, rfl, rfl, _, rfl, iteY (rfl : V.str ("lift" : Str) = V.str ("lift" : Str)) ?_⟩
      obtain ⟨v, hv⟩ := ok
      exact ⟨_, rfl, p, dx, _, rfl, I.ob, fK_no _ _ _ _ _ _, _, rfl, ta, _, 0, _, rfl, rfl, SqL.of h2, atI_nat (j := 0) rfl, hd, p, dk, n, S, goal, M, old, l, v, rfl, IK, O, hol, hv, k⟩
    | turn l c =>
      obtain ⟨ta, h1, h2⟩ := hD
      refine ⟨_, rfl, a, _, rfl, SqT.of h1, rfl, _, _, rfl, _, _, rfl, rfl, ?_⟩
      refine ⟨_, rfl, rfl, _, rfl, iteN w_turn_lay ?_⟩
      refine ⟨_, rfl, rfl, _, rfl, iteN w_turn_lift ?_⟩
      refine ⟨_, rfl, rfl, _, rfl, iteY (rfl : V.str ("turn" : Str) = V.str ("turn" : Str)) ?_⟩
      obtain ⟨⟨v, hv⟩, q1, q2⟩ := ok
      have k : ToldK C hd H p dk n S goal (match lk M l with | some v => insM l (v.1, v.2.1, c) M | none => M) old Q := k
      rw [hv] at k
      exact ⟨_, rfl, p, dx, _, rfl, I.ob, fK_no _ _ _ _ _ _, _, rfl, ta, _, 0, _, rfl, rfl, SqL.of h2, atI_nat (j := 0) rfl, _, rfl, ta, _, 1, _, rfl, rfl, SqL.of h2, atI_nat (j := 1) rfl, hd, p, dk, n, S, goal, M, old, l, v, c, rfl, IK, O, hol, hv, q1, q2, k⟩
    | refill S2 =>
      obtain ⟨ta, h1, h2⟩ := hD
      refine ⟨_, rfl, a, _, rfl, SqT.of h1, rfl, _, _, rfl, _, _, rfl, rfl, ?_⟩
      refine ⟨_, rfl, rfl, _, rfl, iteN w_refill_lay ?_⟩
      refine ⟨_, rfl, rfl, _, rfl, iteN w_refill_lift ?_⟩
      refine ⟨_, rfl, rfl, _, rfl, iteN w_refill_turn ?_⟩
      refine ⟨_, rfl, rfl, _, rfl, iteY (rfl : V.str ("refill" : Str) = V.str ("refill" : Str)) ?_⟩
      exact ⟨_, rfl, p, dx, _, rfl, I.ob, fK_no _ _ _ _ _ _, _, rfl, ta, _, 0, _, rfl, rfl, SqL.of h2, atI_nat (j := 0) rfl, hd, p, dk, n, S, S2, goal, M, old, rfl, IK, ok, hol, k⟩
    | aim t =>
      obtain ⟨ta, gt, h1, h2, h3⟩ := hD
      refine ⟨_, rfl, a, _, rfl, SqT.of h1, rfl, _, _, rfl, _, _, rfl, rfl, ?_⟩
      refine ⟨_, rfl, rfl, _, rfl, iteN w_aim_lay ?_⟩
      refine ⟨_, rfl, rfl, _, rfl, iteN w_aim_lift ?_⟩
      refine ⟨_, rfl, rfl, _, rfl, iteN w_aim_turn ?_⟩
      refine ⟨_, rfl, rfl, _, rfl, iteN w_aim_refill ?_⟩
      exact ⟨_, rfl, p, dx, _, rfl, I.ob, fK_no _ _ _ _ _ _, _, rfl, ta, _, 0, _, rfl, rfl, SqL.of h2, atI_nat (j := 0) rfl, hd, p, dk, gt, n, S, goal, t, M, old, rfl, h3, IK, ok, hol, k⟩
end
end Tr

set_option Elab.async false
set_option linter.all false
set_option maxRecDepth 100000
set_option maxHeartbeats 4000000
/-! a deed drawn -/
namespace Tr
open PySem PySem.Spec PyProof.Rows L2
theorem sub_len : ∀ (xs ks : List Int), xs.Nodup → (∀ x ∈ xs, x ∈ ks) → xs.length ≤ ks.length
  | [], ks, _, _ => Nat.zero_le _
  | x :: r, ks, hn, h => by
    obtain ⟨h1, h2⟩ := List.nodup_cons.mp hn
    have hx := h x (List.mem_cons_self ..)
    have ih := sub_len r (ks.erase x) h2 fun y hy => by
      have : y ≠ x := fun e => h1 (e ▸ hy)
      exact (List.mem_erase_of_ne this).mpr (h y (List.mem_cons_of_mem _ hy))
    rw [List.length_erase_of_mem hx] at ih
    have := List.length_pos_of_mem hx
    rw [List.length_cons]
    omega
/-- labels one behind another are different, for a while -/
theorem labels_nd (l0 : Int) (i : Nat) (hi : i ≤ 1000) : ((List.range i).map fun j : Nat => (l0 - 1 + (j : Int)) % 1000000000000000000 + 1).Nodup := by
  unfold List.Nodup
  rw [List.pairwise_map]
  have h : (List.range i).Pairwise fun a b => a < b ∧ b < i := by
    rw [List.pairwise_iff_getElem]
    intro a b ha hb hab
    rw [List.getElem_range, List.getElem_range]
    rw [List.length_range] at hb
    exact ⟨hab, hb⟩
  refine h.imp fun {a b} hab => ?_
  omega
theorem lk_key {M : Mp} {l : Int} : (∃ v, lk M l = some v) ↔ l ∈ M.map (·.1) := by
  constructor
  · rintro ⟨v, hv⟩
    exact Classical.byContradiction fun hn => by rw [lk_none.mpr hn] at hv; cases hv
  · intro h
    cases e : lk M l with
    | none => exact (lk_none.mp e h).elim
    | some v => exact ⟨v, rfl⟩
theorem nx_go {i : Nat} {v : V} {σ : L2.St} {H : Hp} {D : L2.St → Hp → Prop} (h : D (σ.set i (some v)) H) : gName i v σ H D := h
section
variable {P : Program} {w : World} {K : PySem.W.Frag} {mg : Str → Option Value} {base : Heap} {C : Addr}
/-- the greatest of the goal's levels and 0 -/
theorem low_run {σ : L2.St} {j : Nat} {s hd d ga : Addr} {H : Hp} {n : Nat} {S : Int} {goal : Tb} {M : Mp} {kvs : List (Key × V)} {Q : VK} (I : StAt hd H s n S goal M d ga kvs) (h1 : σ[1]? = some (some (.ref s))) (hj : j < σ.length) (hgl : goal.length ≤ 100)
    (hgb : ∀ p y, g goal p = some y → 0 ≤ y ∧ y ≤ S) (hS : 0 ≤ S) (k : ∀ H' low, Same H H' → 0 ≤ low → low ≤ S → (∀ p y, g goal p = some y → y ≤ low) → Q (.int low) H') :
    tCB (rMax K) (tCons (tOp rCat (tLst (tCons (tC (.int 0)) tNil)) (tLc (iList K (tOp (rIxL K) (tVar 1) (tC (.int 2)))) (gName j) (tTest (tOp rNotN (tVar j) (tC .non))) (tVar j) [j])) tNil) σ H Q := by
  refine ⟨(by show 1 ≤ sizeLine; decide), fun a ha => ?_⟩
  have s1 : Same H (upd H a (.lst [.int 0])) := Same.new ha
  refine ⟨_, h1, s, _, 2, _, rfl, rfl, SqL.of (s1 _ _ I.l), atI_nat (j := 2) rfl, ga, rfl, ⟨_, SqL.of (s1 _ _ I.g)⟩, fun D hD => ?_⟩
  have hD0 := s1.free hD
  have naD : a ≠ D := ne_of_none upd_same hD
  have hw : (wipe σ [j]) = σ.set j none := rfl
  have hjj : ∀ x : Option V, ((σ.set j none).set j x)[j]? = some x := fun x => List.getElem?_set_self (by rw [List.length_set]; exact hj)
  refine lc_list (K := K) (a := ga) (xs := tv goal) (fun i H2 => Same H H2 ∧ H2 a = some (.lst [.int 0]) ∧ H2 D = some (.lst (((goal.take i).filterMap id).map V.int))) ⟨s1.trans (Same.new hD), by rw [upd_ne naD, upd_same], upd_same⟩ (fun i H2 _ ⟨s2, _⟩ => SqL.of (s2 _ _ I.g)) ?_ ?_
  · rintro i x H2 hi ⟨s2, ha2, h2⟩
    have hi' : i < goal.length := by rw [← tv_len]; exact (List.getElem?_eq_some_iff.mp hi).1
    rw [tv_at hi'] at hi
    cases hi
    have et : goal.take (i + 1) = goal.take i ++ [g goal i] := by rw [List.take_add_one, g_lt hi']; rfl
    refine ⟨?_, _, hjj _, rfl, _, rfl, ?_⟩
    · show ((σ.set j none).set j (some (ov (g goal i)))).set j none = σ.set j none
      rw [List.set_set, List.set_set]
    · cases hx : g goal i with
      | none =>
        refine iteF ⟨s2, ha2, ?_⟩
        rw [h2, et, hx]
        simp
      | some y =>
        refine iteT ⟨_, hjj _, _, h2, small1000 ?_, s2.mut hD0, by rw [upd_ne naD]; exact ha2, ?_⟩
        · rw [List.length_map]
          have := List.length_filterMap_le id (goal.take i)
          rw [List.length_take] at this
          omega
        · rw [upd_same, et, hx]
          simp [ov]
  · rintro H2 ⟨s2, ha2, h2⟩
    rw [tv_len, List.take_length] at h2
    refine ⟨a, D, _, _, rfl, rfl, ha2, h2, le1000 (by rw [List.length_map]; have := List.length_filterMap_le id goal; show 1 + _ ≤ 1000; omega), fun e he => ?_⟩
    refine ⟨e, 0 :: goal.filterMap id, rfl, SqL.of upd_same, by simp, fun m hm hall => ?_⟩
    have memg : ∀ y, y ∈ goal.filterMap id → ∃ p, g goal p = some y := fun y hy => by
      obtain ⟨o, ho, e⟩ := List.mem_filterMap.mp hy
      obtain ⟨p, hp, ep⟩ := List.getElem_of_mem ho
      exact ⟨p, g_some.mpr (by rw [List.getElem?_eq_getElem hp, ep]; exact congrArg some e)⟩
    refine k _ m (s2.trans (Same.new he)) (hall 0 (List.mem_cons_self ..)) ?_ fun p y hy => hall y (List.mem_cons_of_mem _ ?_)
    · rcases List.mem_cons.mp hm with e | e
      · omega
      · obtain ⟨p, hp⟩ := memg m e
        exact (hgb p m hp).2
    · exact List.mem_filterMap.mpr ⟨some y, List.mem_of_getElem? (g_some.mp hy), rfl⟩

abbrev sDeed : Stmt := top 58
abbrev nDeed : List Str := ["_law_hand_here", "_law_state_here", "_law_scale_here", "_law_most", "_law_way", "_law_labels", "_law_label", "_law_start", "_law_end", "_law_low", "_law_level"]
theorem scDeed : FnScope nDeed ["_law_hand_here", "_law_state_here", "_law_scale_here", "_law_most"] (defScope sDeed) := ⟨rfl, rfl, rfl, by decide +kernel, rfl, by decide +kernel, by decide +kernel⟩
def spDeed : Sp := fun vs H Q _ => ∃ (hd sa s d : Addr) (n : Nat) (S : Int) (goal : Tb) (M : Mp) (sc most : Int), vs = [.ref hd, .ref s, .int sc, .int most] ∧ HandAt H hd sa ∧ SA hd H s n S goal M d ∧ KOk n S goal M ∧ M.length ≤ 8 ∧ 1 ≤ sc ∧ sc ≤ 1000000000000000000 ∧ 0 ≤ most ∧ most ≤ 4000000000000000000 ∧
  ∀ H' a D, HandAt H' hd sa → Keep [hd] H H' → DdAt H' a D → DdOk n S goal M D → (appM D M).length ≤ 8 → Q (.ref a) H'
/-- a list that is no hand stands behind a draw -/
theorem Keep.one {H H' : Hp} {hd b : Addr} {o : HO} (k : Keep [hd] H H') (h : H b = some o) (n : b ≠ hd) : H' b = some o := k.1 b o h (by simpa using n)
set_option maxHeartbeats 32000000 in
theorem cal_deed (T : Blt mg) (C1 : Cal P w K mg base "_law_draw" 3 ["_law_hand_here", "_law_many"] spDraw) (C2 : Cal P w K mg base "_law_change" 4 ["_law_hand_here", "_law_scale_here"] spChange) (C3 : Cal P w K mg base "_law_table" 4 ["_law_hand_here", "_law_many", "_law_store_here"] spTab)
    (D : Dfn K mg "_law_deed" sDeed) : Cal P w K mg base "_law_deed" 5 ["_law_hand_here", "_law_state_here", "_law_scale_here", "_law_most"] spDeed := by
  obtain ⟨f, fd, F, m⟩ := D
  obtain ⟨f1, fd1, G1, m1, k1, b1⟩ := C1
  obtain ⟨f2, fd2, G2, m2, k2, b2⟩ := C2
  obtain ⟨f3, fd3, G3, m3, k3, b3⟩ := C3
  refine ⟨f, fd, F.ok scDeed (fun vs H Q E h => ?_) (fun cdv A outer s H vs Q E hr h => ?_), m, F.kp, F.binds fun _ _ _ _ _ _ us hl => match us, hl with | [_, _, _, _], _ => rfl⟩
  · obtain ⟨hd, sa, s, d, n, S, goal, M, sc, most, rfl, _⟩ := h
    rfl
  · obtain ⟨hd, sa, s, d, n, S, goal, M, sc, most, rfl, HA, ⟨ga, kvs, I⟩, O, hml, hs1, hs2, hm1, hm2, k⟩ := h
    have hu := hu_of hr
    have hr3 : Room 3 _ := hr.mono (by decide)
    refine ⟨_, pss_cons (ps_set (i := 4) scDeed.nd rfl (.inl rfl) (pe_call G1 hr3 rfl m1 k1 b1 .nil pass0 (pa_cons (pv 0) (pa_cons pe_int pa_nil))))
      (pss_cons (ps_set (i := 5) scDeed.nd rfl (.inl rfl) (pe_callB (call_sortedDI rfl) (by rfl) T.sorted (by decide +kernel) (pa_cons (pe_ix ix_list (pv 1) pe_int (fun _ _ => rfl)) pa_nil)))
      (pss_cons (ps_if (PW.pt (pw_or (PW.pt (pw_and (pt_cmpR op_lt (pv 4) pe_int (nomark _)) (pw_and1 (pt_cmpR op_lt (pe_callB call_len_seq (by rfl) T.len PySem.boot_len (pa_cons (pv 5) pa_nil)) pe_int (nomark _))))) (pw_or1 (PW.pt (pw_and (pt_cmpR (op_eqD hr.units) (pv 5) (pe_lst pa_nil) (nomark _)) (pw_and1 (pt_cmpR op_lt (pv 4) pe_int (nomark _))))))))
        (pss_cons (ps_set (i := 6) scDeed.nd rfl (.inl rfl) (pe_ix ix_list (pe_lst (pa_cons (pe_op op_add pe_int (pe_call G1 hr3 rfl m1 k1 b1 .nil pass0 (pa_cons (pv 0) (pa_cons pe_int pa_nil)))) (pa_cons (pe_op op_add pe_int (pe_call G1 hr3 rfl m1 k1 b1 .nil pass0 (pa_cons (pv 0) (pa_cons (pe_op op_pow pe_int pe_int) pa_nil)))) pa_nil)))
            (pe_call G1 hr3 rfl m1 k1 b1 .nil pass0 (pa_cons (pv 0) (pa_cons pe_int pa_nil))) (fun _ _ => rfl)))
        (pss_cons (ps_while PassesOwn.never (pt_cmp (pc_din hu (pv 6) (pe_ix ix_list (pv 1) pe_int (fun _ _ => rfl)))) (pss_one (ps_set (i := 6) scDeed.nd rfl (.inl rfl) (pe_op op_add (pe_op op_mod (pv 6) (pe_op op_pow pe_int pe_int)) pe_int))))
        (pss_cons (ps_set (i := 7) scDeed.nd rfl (.inl rfl) (pe_call G1 hr3 rfl m1 k1 b1 .nil pass0 (pa_cons (pv 0) (pa_cons (pe_ix ix_list (pv 1) pe_int (fun _ _ => rfl)) pa_nil))))
        (pss_cons (ps_set (i := 8) scDeed.nd rfl (.inl rfl) (pe_ix ix_list (pe_lst (pa_cons (pe_call G1 hr3 rfl m1 k1 b1 .nil pass0 (pa_cons (pv 0) (pa_cons (pe_ix ix_list (pv 1) pe_int (fun _ _ => rfl)) pa_nil))) (pa_cons (pe_op op_mod (pe_op op_add (pv 7) pe_int) (pe_ix ix_list (pv 1) pe_int (fun _ _ => rfl))) pa_nil)))
            (pe_call G1 hr3 rfl m1 k1 b1 .nil pass0 (pa_cons (pv 0) (pa_cons pe_int pa_nil))) (fun _ _ => rfl)))
        (pss_one (ps_ret (pe_tup (pa_cons pe_str (pa_cons (pe_lst (pa_cons (pv 6) (pa_cons (pv 7) (pa_cons (pv 8) (pa_cons (pe_call G2 hr rfl m2 k2 b2 .nil pass0 (pa_cons (pv 0) (pa_cons (pv 2) pa_nil))) pa_nil))))) pa_nil)))))))))
        pss_nil)
      (pss_cons (ps_if (pt_cmpR op_lt (pv 4) pe_int (nomark _)) (pss_one (ps_ret (pe_tup (pa_cons pe_str (pa_cons (pe_lst (pa_cons (pe_ix ix_list (pv 5) (pe_call G1 hr3 rfl m1 k1 b1 .nil pass0 (pa_cons (pv 0) (pa_cons (pe_callB call_len_seq (by rfl) T.len PySem.boot_len (pa_cons (pv 5) pa_nil)) pa_nil))) (fun _ _ => rfl)) pa_nil)) pa_nil))))) pss_nil)
      (pss_cons (ps_if (pt_cmpR op_lt (pv 4) pe_int (nomark _)) (pss_one (ps_ret (pe_tup (pa_cons pe_str (pa_cons (pe_lst (pa_cons (pe_ix ix_list (pv 5) (pe_call G1 hr3 rfl m1 k1 b1 .nil pass0 (pa_cons (pv 0) (pa_cons (pe_callB call_len_seq (by rfl) T.len PySem.boot_len (pa_cons (pv 5) pa_nil)) pa_nil))) (fun _ _ => rfl))
          (pa_cons (pe_call G2 hr rfl m2 k2 b2 .nil pass0 (pa_cons (pv 0) (pa_cons (pv 2) pa_nil))) pa_nil))) pa_nil))))) pss_nil)
      (pss_cons (ps_if (pt_cmpR op_eq (pv 4) pe_int (nomark _))
        (pss_cons (ps_set (i := 9) scDeed.nd rfl (.inl rfl) (pe_callB (cr_max rfl) (by rfl) T.max (by decide +kernel) (pa_cons (pe_op op_cat (pe_lst (pa_cons pe_int pa_nil)) (pe_lc (own := [("_law_level", 10)]) (g := gName 10) (tt := tTest (tOp rNotN (tVar 10) (tC .non))) (te := tVar 10) rfl scDeed.nd (pi_list (pe_ix ix_list (pv 1) pe_int (fun _ _ => rfl)))
            (blkOk_by (N := nDeed) (sc := defScope sDeed) (by decide +kernel)) (fun _ _ _ _ _ => pg_name (i := 10) scDeed.nd rfl (Or.inl rfl)) (fun _ _ _ _ _ => pts_one (pt_cmpR op_notN1 (pv 10) pe_non (nomark _))) (fun _ _ _ _ _ => pv 10))) pa_nil)))
        (pss_one (ps_ret (pe_tup (pa_cons pe_str (pa_cons (pe_lst (pa_cons (pe_op op_add (pv 9) (pe_call G1 hr3 rfl m1 k1 b1 .nil pass0 (pa_cons (pv 0) (pa_cons (pe_callB (call_max2 rfl) (by rfl) T.max (by decide +kernel) (pa_cons pe_int (pa_cons (pe_op op_sub (pe_op op_add (pv 3) pe_int) (pv 9)) pa_nil))) pa_nil)))) pa_nil)) pa_nil))))))
        pss_nil)
      (pss_one (ps_ret (pe_tup (pa_cons pe_str (pa_cons (pe_lst (pa_cons (pe_call G3 hr rfl m3 k3 b3 .nil pass0 (pa_cons (pv 0) (pa_cons (pe_ix ix_list (pv 1) pe_int (fun _ _ => rfl)) (pa_cons (pe_ix ix_list (pv 1) pe_int (fun _ _ => rfl)) pa_nil)))) pa_nil)) pa_nil)))))))))), ?_⟩
    have hsd : d ≠ hd := fun e => by
      obtain ⟨xs, hx⟩ := HA.lst
      have := I.d.ob
      rw [e, hx] at this
      cases this
    have keepI : ∀ {H' : Hp}, Keep [hd] H H' → StAt hd H' s n S goal M d ga kvs := fun kp => I.keep kp (by simpa using I.n1) (by simpa using I.n2) (by simpa using hsd)
    obtain ⟨ks, hks, hkl, hks2⟩ := I.d.keys O.srt
    have hn1 := O.n1
    have hn2 := O.n2
    have ep : (10 : Int) ^ (18 : Int).toNat = 1000000000000000000 := by decide
    -- way, labels
    refine ⟨_, rfl, hd, sa, 8, rfl, HA, by decide, by decide, fun H1 way w0 w1 HA1 K1 => ?_⟩
    refine ⟨_, rfl, s, _, 3, _, rfl, rfl, SqL.of (keepI K1).l, atI_nat (j := 3) rfl, d, kvs, ks, rfl, .inl (keepI K1).d.ob, hks, by omega, fun ys la hperm hle hla => ?_⟩
    have ey := hks2 ys hperm hle
    subst ey
    have nla : la ≠ hd := (hand_ne HA1 hla).symm
    have K2 : Keep [hd] H (upd H1 la (.lst ((M.map (·.1)).map V.int))) := K1.trans (Keep.new hla)
    have HA2 := HA1.same (Same.new (o := .lst ((M.map (·.1)).map V.int)) hla)
    have e2 : (upd H1 la (.lst ((M.map (·.1)).map V.int))) la = some (.lst ((M.map (·.1)).map V.int)) := upd_same
    generalize upd H1 la (.lst ((M.map (·.1)).map V.int)) = H2 at K2 HA2 e2 ⊢
    have hlen : ((M.map (·.1)).map V.int).length = M.length := by rw [List.length_map, List.length_map]
    have etv : (M.map (·.1)).map V.int = tv ((M.map (·.1)).map some) := by
      unfold tv
      rw [List.map_map, List.map_map, List.map_map]
      rfl
    have enil : ((M.map (·.1)).map some = ([] : Tb)) ↔ M = [] := by
      constructor
      · intro e
        have := congrArg List.length e
        rw [List.length_map, List.length_map] at this
        exact List.eq_nil_of_length_eq_zero this
      · intro e
        rw [e]
        rfl
    by_cases hc : (way < 4 ∧ M.length < 8) ∨ (M = [] ∧ way < 6)
    · refine nx_go ?_
      dsimp only
      refine st_seq ?_
      refine st_yesH (P := fun H' => Same H2 H') ?_ fun H3 s3 => ?_
      · intro Q' q'
        refine ⟨_, rfl, _, _, rfl, rfl, _, rfl, ?_⟩
        by_cases h4 : way < 4
        · refine iteY h4 ?_
          refine ⟨_, rfl, la, _, rfl, .inl (SqL.of e2), _, _, rfl, rfl, _, rfl, ?_⟩
          rw [hlen]
          have hm8 : (M.length : Int) < 8 := by
            rcases hc with h | h
            · omega
            · rw [h.1]; decide
          refine iteY hm8 ?_
          exact q' H2 (Same.refl H2)
        · refine iteN h4 ?_
          refine iteF ?_
          have hc2 : M = [] ∧ way < 6 := hc.resolve_left fun h => h4 h.1
          refine ⟨_, rfl, by show 0 ≤ sizeLine; decide, fun e he => ?_⟩
          have s3 : Same H2 (upd H2 e (.lst [])) := Same.new he
          refine ⟨td _, td [], dp_td (SqL.of (by rw [← etv]; exact s3 _ _ e2)), dp_td (SqL.of upd_same), shaped_td _, shaped_td _, _, rfl, ?_⟩
          rw [eqv_td]
          refine iteY (enil.mpr hc2.1) ?_
          refine ⟨_, rfl, _, _, rfl, rfl, _, rfl, ?_⟩
          have e6 : decide (way < 6) = true := decide_eq_true hc2.2
          show Q' (decide (way < 6)) _
          rw [e6]
          exact q' _ s3
      · -- lay
        have K3 := K2.trans (Same.keep s3).of
        have HA3 := HA2.same s3
        have hm7 : M.length < 8 := by
          rcases hc with h | h
          · exact h.2
          · rw [h.1]; decide
        refine ⟨_, rfl, hd, sa, 12, rfl, HA3, by decide, by decide, fun H4 v v0 v1 HA4 K4 => ⟨_, _, rfl, rfl, ?_⟩⟩
        refine ⟨_, rfl, _, _, rfl, rfl, ⟨by decide, by decide, by decide⟩, hd, sa, _, rfl, HA4, by decide, by decide, fun H5 u u0 u1 HA5 K5 => ⟨_, _, rfl, rfl, (by show 2 ≤ sizeLine; decide), fun l hl => ?_⟩⟩
        rw [ep] at u1
        have nl : l ≠ hd := (hand_ne HA5 hl).symm
        refine ⟨_, rfl, hd, sa, 2, rfl, HA5.same (Same.new hl), by decide, by decide, fun H6 z z0 z1 HA6 K6 => ?_⟩
        have hl6 := K6.one upd_same nl
        have K06 : Keep [hd] H H6 := (((K3.trans K4).trans K5).trans (Keep.new hl)).trans K6
        obtain ⟨lb, hlb, hlb1, hlb2⟩ : ∃ lb, atI [V.int (1 + v), V.int (1 + u)] z = some (.int lb) ∧ 1 ≤ lb ∧ lb ≤ 1000000000000000000 := by
          have hz : z = 0 ∨ z = 1 := by omega
          rcases hz with e | e
          · exact ⟨1 + v, at_of (j := 0) (by omega) rfl, by omega, by omega⟩
          · exact ⟨1 + u, at_of (j := 1) (by omega) rfl, by omega, by omega⟩
        refine ⟨l, _, z, _, rfl, rfl, SqL.of hl6, hlb, ?_⟩
        -- while the label has a way
        refine ⟨fun μ σ H7 => ∃ (i : Nat) (x : Int), σ = [some (.ref hd), some (.ref s), some (.int sc), some (.int most), some (.int way), some (.ref la), some (.int x), none, none, none, none] ∧ H7 = H6 ∧ 1 ≤ x ∧ x ≤ 1000000000000000000 ∧ i ≤ M.length ∧ x = (lb - 1 + (i : Int)) % 1000000000000000000 + 1 ∧
            (∀ j : Nat, j < i → (lb - 1 + (j : Int)) % 1000000000000000000 + 1 ∈ M.map (·.1)) ∧ μ = M.length - i, ⟨_, 0, lb, rfl, rfl, hlb1, hlb2, Nat.zero_le _, by omega, fun j hj => absurd hj (Nat.not_lt_zero _), rfl⟩, ?_⟩
        rintro μ σ H7 ⟨i, x, rfl, rfl, hx1, hx2, hi, hxi, hall, rfl⟩
        have I6 := keepI K06
        refine ⟨_, rfl, _, rfl, s, _, 3, _, rfl, rfl, SqL.of I6.l, atI_nat (j := 3) rfl, d, _, rfl, DGet.k (k := Sum.inl x) I6.d.ob, _, rfl, ?_⟩
        cases hx : lk M x with
        | some w3 =>
          obtain ⟨b, e1, _⟩ := I6.d.yes x w3 hx
          rw [e1]
          refine iteT ⟨_, fun σ' H' h => h, ?_⟩
          have hxm : x ∈ M.map (·.1) := lk_key.mp ⟨w3, hx⟩
          have hall' : ∀ j : Nat, j < i + 1 → (lb - 1 + (j : Int)) % 1000000000000000000 + 1 ∈ M.map (·.1) := fun j hj => by
            by_cases e : j = i
            · rw [e, ← hxi]; exact hxm
            · exact hall j (by omega)
          have hi' : i + 1 ≤ M.length := by
            have := sub_len _ (M.map (·.1)) (labels_nd lb (i + 1) (by omega)) fun y hy => by
              obtain ⟨j, hj, e⟩ := List.mem_map.mp hy
              rw [← e]
              exact hall' j (List.mem_range.mp hj)
            rw [List.length_map, List.length_range, List.length_map] at this
            exact this
          refine ⟨_, rfl, _, _, rfl, rfl, ⟨by decide, by decide, by decide⟩, _, _, rfl, rfl, (by show (0 : Int) < (10 : Int) ^ (18 : Int).toNat; decide), _, _, rfl, rfl, ?_⟩
          rw [ep]
          exact ⟨_, by omega, i + 1, _, rfl, rfl, by omega, by omega, hi', by omega, hall', rfl⟩
        | none =>
          rw [I6.d.no x hx]
          refine iteF ?_
          -- start, end
          refine ⟨_, rfl, _, rfl, s, _, 0, _, rfl, rfl, SqL.of I6.l, atI_nat (j := 0) rfl, hd, sa, _, rfl, HA6, by omega, by omega, fun H8 st st0 st1 HA8 K8 => ?_⟩
          have K08 := K06.trans K8
          have I8 := keepI K08
          refine ⟨_, rfl, _, rfl, s, _, 0, _, rfl, rfl, SqL.of I8.l, atI_nat (j := 0) rfl, hd, sa, _, rfl, HA8, by omega, by omega, fun H9 en en0 en1 HA9 K9 => ?_⟩
          have K09 := K08.trans K9
          have I9 := keepI K09
          refine ⟨_, rfl, _, _, rfl, rfl, _, rfl, s, _, 0, _, rfl, rfl, SqL.of I9.l, atI_nat (j := 0) rfl, _, _, rfl, rfl, (by show (0 : Int) < (n : Int); omega), (by show 2 ≤ sizeLine; decide), fun l2 hl2 => ?_⟩
          have nl2 : l2 ≠ hd := (hand_ne HA9 hl2).symm
          refine ⟨_, rfl, hd, sa, 2, rfl, HA9.same (Same.new hl2), by decide, by decide, fun HB y y0 y1 HAB KB => ?_⟩
          have hlB := KB.one upd_same nl2
          have K0B : Keep [hd] H HB := (K09.trans (Keep.new hl2)).trans KB
          have hmod0 : 0 ≤ (st + 1) % (n : Int) := Int.emod_nonneg _ (by omega)
          have hmod1 : (st + 1) % (n : Int) < (n : Int) := Int.emod_lt_of_pos _ (by omega)
          obtain ⟨ee, hee, hee1, hee2⟩ : ∃ ee, atI [V.int en, V.int ((st + 1) % (n : Int))] y = some (.int ee) ∧ 0 ≤ ee ∧ ee < (n : Int) := by
            have hy : y = 0 ∨ y = 1 := by omega
            rcases hy with e | e
            · exact ⟨en, at_of (j := 0) (by omega) rfl, en0, en1⟩
            · exact ⟨(st + 1) % (n : Int), at_of (j := 1) (by omega) rfl, hmod0, hmod1⟩
          refine ⟨l2, _, y, _, rfl, rfl, SqL.of hlB, hee, ?_⟩
          obtain ⟨stn, rfl⟩ : ∃ a : Nat, st = (a : Int) := ⟨st.toNat, by omega⟩
          obtain ⟨een, rfl⟩ : ∃ a : Nat, ee = (a : Int) := ⟨ee.toNat, by omega⟩
          refine ⟨_, rfl, _, rfl, _, rfl, _, rfl, _, rfl, hd, sa, sc, rfl, HAB, hs1, hs2, fun HC c c0 c1 HAC KC => ⟨(by show 4 ≤ sizeLine; decide), fun ta hta => ⟨(by show 2 ≤ sizeLine; decide), fun tp htp => ?_⟩⟩⟩
          have nt : ta ≠ tp := ne_of_none upd_same htp
          exact k _ tp (.lay x stn een c) ((HAC.same (Same.new hta)).same (Same.new htp)) (((K0B.trans KC).trans (Keep.new hta)).trans (Keep.new htp)) ⟨ta, upd_same, by rw [upd_ne nt, upd_same]⟩
            ⟨hx, hml, hx1, hx2, by omega, by omega, by omega, by omega⟩ (by show (insM x (stn, een, c) M).length ≤ 8; rw [ins_len_new hx]; omega)
    · have hc1 : ¬ (way < 4 ∧ M.length < 8) := fun h => hc (.inl h)
      have hc2 : ¬ (M = [] ∧ way < 6) := fun h => hc (.inr h)
      refine nx_go ?_
      dsimp only
      refine st_seq ?_
      refine st_noH (P := fun H' => Same H2 H') ?_ fun H3 s3 => ?_
      · intro Q' q'
        have snd : (tAnd (tTest (tOp (rEqD K) (tVar 5) (tLst tNil))) (tTest (tOp (rI0 fun i j => .bl (decide (i < j))) (tVar 4) (tC (.int 6))))) [some (.ref hd), some (.ref s), some (.int sc), some (.int most), some (.int way), some (.ref la), none, none, none, none, none] H2 Q' := by
          refine ⟨_, rfl, by show 0 ≤ sizeLine; decide, fun e he => ?_⟩
          have s3 : Same H2 (upd H2 e (.lst [])) := Same.new he
          refine ⟨td _, td [], dp_td (SqL.of (by rw [← etv]; exact s3 _ _ e2)), dp_td (SqL.of upd_same), shaped_td _, shaped_td _, _, rfl, ?_⟩
          rw [eqv_td]
          by_cases hM : M = []
          · refine iteY (enil.mpr hM) ?_
            refine ⟨_, rfl, _, _, rfl, rfl, _, rfl, ?_⟩
            have e6 : decide (way < 6) = false := decide_eq_false fun h => hc2 ⟨hM, h⟩
            show Q' (decide (way < 6)) _
            rw [e6]
            exact q' _ s3
          · exact iteN (fun h => hM (enil.mp h)) (q' _ s3)
        refine ⟨_, rfl, _, _, rfl, rfl, _, rfl, ?_⟩
        by_cases h4 : way < 4
        · refine iteY h4 ?_
          refine ⟨_, rfl, la, _, rfl, .inl (SqL.of e2), _, _, rfl, rfl, _, rfl, ?_⟩
          rw [hlen]
          exact iteN (fun h => hc1 ⟨h4, by omega⟩) snd
        · exact iteN h4 (iteF snd)
      · have K3 := K2.trans (Same.keep s3).of
        have HA3 := HA2.same s3
        have e3 := s3 _ _ e2
        have I3 := keepI K3
        -- a label drawn
        have pick : ∀ (z : Int), 0 ≤ z → z < (M.length : Int) → ∃ q : Int × W3, atI ((M.map (·.1)).map V.int) z = some (.int q.1) ∧ lk M q.1 = some q.2 := fun z z0 z1 => by
          have hz : z.toNat < M.length := by omega
          refine ⟨M[z.toNat], at_of (j := z.toNat) (by omega) ?_, mem_lk O.srt (List.getElem_mem hz)⟩
          rw [List.getElem?_map, List.getElem?_map, List.getElem?_eq_getElem hz]
          rfl
        refine ⟨_, rfl, _, _, rfl, rfl, _, rfl, ?_⟩
        by_cases h5 : way < 5
        · refine iteY h5 ?_
          have hpos : 1 ≤ M.length := by
            cases hM : M with
            | nil => exact (hc2 ⟨hM, by omega⟩).elim
            | cons a b => simp
          refine ⟨_, rfl, _, rfl, _, rfl, la, _, rfl, .inl (SqL.of e3), hd, sa, _, rfl, HA3, by rw [hlen]; omega, by rw [hlen]; omega, fun H4 z z0 z1 HA4 K4 => ?_⟩
          rw [hlen] at z1
          obtain ⟨q, hq1, hq2⟩ := pick z z0 z1
          refine ⟨la, _, z, _, rfl, rfl, SqL.of (K4.one e3 nla), hq1, (by show 1 ≤ sizeLine; decide), fun ta hta => ⟨(by show 2 ≤ sizeLine; decide), fun tp htp => ?_⟩⟩
          have nt : ta ≠ tp := ne_of_none upd_same htp
          exact k _ tp (.lift q.1) ((HA4.same (Same.new hta)).same (Same.new htp)) (((K3.trans K4).trans (Keep.new hta)).trans (Keep.new htp)) ⟨ta, upd_same, by rw [upd_ne nt, upd_same]⟩ ⟨_, hq2⟩ (Nat.le_trans del_len hml)
        refine iteN h5 ?_
        refine ⟨_, rfl, _, _, rfl, rfl, _, rfl, ?_⟩
        by_cases h6 : way < 6
        · refine iteY h6 ?_
          have hpos : 1 ≤ M.length := by
            cases hM : M with
            | nil => exact (hc2 ⟨hM, by omega⟩).elim
            | cons a b => simp
          refine ⟨_, rfl, _, rfl, _, rfl, la, _, rfl, .inl (SqL.of e3), hd, sa, _, rfl, HA3, by rw [hlen]; omega, by rw [hlen]; omega, fun H4 z z0 z1 HA4 K4 => ?_⟩
          rw [hlen] at z1
          obtain ⟨q, hq1, hq2⟩ := pick z z0 z1
          refine ⟨la, _, z, _, rfl, rfl, SqL.of (K4.one e3 nla), hq1, _, rfl, _, rfl, hd, sa, sc, rfl, HA4, hs1, hs2, fun H5 c c0 c1 HA5 K5 => ⟨(by show 2 ≤ sizeLine; decide), fun ta hta => ⟨(by show 2 ≤ sizeLine; decide), fun tp htp => ?_⟩⟩⟩
          have nt : ta ≠ tp := ne_of_none upd_same htp
          refine k _ tp (.turn q.1 c) ((HA5.same (Same.new hta)).same (Same.new htp)) ((((K3.trans K4).trans K5).trans (Keep.new hta)).trans (Keep.new htp)) ⟨ta, upd_same, by rw [upd_ne nt, upd_same]⟩ ⟨⟨_, hq2⟩, by omega, by omega⟩ ?_
          show (match lk M q.1 with | some v => insM q.1 (v.1, v.2.1, c) M | none => M).length ≤ 8
          rw [hq2]
          show (insM q.1 (q.2.1, q.2.2.1, c) M).length ≤ 8
          rw [ins_len_old O.srt (lk_key.mp ⟨_, hq2⟩)]
          exact hml
        refine iteN h6 ?_
        refine ⟨_, rfl, rfl, _, rfl, ?_⟩
        refine ite2 (fun _ => ?_) (fun _ => ?_)
        · -- refill
          refine low_run (K := K) (j := 10) I3 rfl (by show 10 < 11; decide) (by rw [O.gl]; omega) O.gb O.s1 fun H4 low s4 l0 l1 lall => ?_
          refine ⟨_, rfl, _, rfl, _, rfl, _, _, rfl, rfl, _, rfl, _, _, rfl, rfl, _, _, rfl, ?_⟩
          have hS2 := O.s2
          refine ⟨hd, sa, _, rfl, HA3.same s4, ?_, ?_, fun H5 z z0 z1 HA5 K5 => ⟨_, _, rfl, rfl, (by show 1 ≤ sizeLine; decide), fun ta hta => ⟨(by show 2 ≤ sizeLine; decide), fun tp htp => ?_⟩⟩⟩
          · split <;> omega
          · split <;> omega
          have nt : ta ≠ tp := ne_of_none upd_same htp
          have hz : low + z ≤ 100000000000000000000 := by split at z1 <;> omega
          refine k _ tp (.refill (low + z)) ((HA5.same (Same.new hta)).same (Same.new htp)) ((((K3.trans (Same.keep s4).of).trans K5).trans (Keep.new hta)).trans (Keep.new htp)) ⟨ta, upd_same, by rw [upd_ne nt, upd_same]⟩ ?_ hml
          exact ⟨O.n1, O.n2, by omega, hz, O.gl, fun p y hy => ⟨(O.gb p y hy).1, by have := lall p y hy; omega⟩, O.srt, O.ml, O.wk, O.ck, O.lb⟩
        · -- aim
          refine ⟨_, rfl, _, rfl, s, _, 0, _, rfl, rfl, SqL.of I3.l, atI_nat (j := 0) rfl, _, rfl, s, _, 1, _, rfl, rfl, SqL.of I3.l, atI_nat (j := 1) rfl, hd, sa, n, S, rfl, HA3, by omega, O.s1, O.s2, fun H4 a t HA4 K4 na ea etl etb => ⟨(by show 1 ≤ sizeLine; decide), fun ta hta => ⟨(by show 2 ≤ sizeLine; decide), fun tp htp => ?_⟩⟩⟩
          have nt : ta ≠ tp := ne_of_none upd_same htp
          have s5 : Same H4 (upd H4 ta (.lst [.ref a])) := Same.new hta
          have s6 : Same (upd H4 ta (.lst [.ref a])) (upd (upd H4 ta (.lst [.ref a])) tp (.tup [.str "aim", .ref ta])) := Same.new htp
          exact k _ tp (.aim t) ((HA4.same s5).same s6) (((K3.trans K4).trans (Same.keep s5).of).trans (Same.keep s6).of) ⟨ta, a, upd_same, by rw [upd_ne nt, upd_same], s6 _ _ (s5 _ _ ea)⟩ ⟨O.n1, O.n2, O.s1, O.s2, etl, etb, O.srt, O.ml, O.wk, O.ck, O.lb⟩ hml
end
end Tr


set_option Elab.async false
set_option linter.all false
set_option maxRecDepth 100000
set_option maxHeartbeats 4000000
/-! a pair of deeds: there and back -/
namespace Tr
open PySem PySem.Spec PyProof.Rows L2
/-- the pair's own law: both can be done, the second undoes the first, none rose (gives) or fell -/
structure PairOk (gv : Bool) (n : Nat) (S : Int) (goal : Tb) (M : Mp) (D0 D1 : Dd) : Prop where
  ok0 : DdOk n S goal M D0
  ok1 : DdOk n (appS D0 S) (appG D0 goal) (appM D0 M) D1
  eS : appS D1 (appS D0 S) = S
  eG : appG D1 (appG D0 goal) = goal
  eM : appM D1 (appM D0 M) = M
  ord : ∀ k k', IsLeast n S (wsM M) goal k → IsLeast n (appS D0 S) (wsM (appM D0 M)) (appG D0 goal) k' → if gv = true then NoRise k k' else NoRise k' k
theorem pair_lay {n : Nat} {S : Int} {goal : Tb} {M : Mp} (O : KOk n S goal M) (hml : M.length ≤ 8) {l : Int} {s e : Nat} {c : Int} (h : lk M l = none) (hl : 1 ≤ l ∧ l ≤ 1000000000000000000) (hs : s < n) (he : e < n) (hc : -1000000000000000000 ≤ c ∧ c ≤ 1000000000000000000) :
    PairOk true n S goal M (.lay l s e c) (.lift l) :=
  ⟨⟨h, hml, hl.1, hl.2, hs, he, hc.1, hc.2⟩, ⟨(s, e, c), by show lk (insM l (s, e, c) M) l = _; rw [lk_ins, if_pos rfl]⟩, rfl, rfl, del_ins O.srt h, fun k k' h1 h2 => norise_ways (cov_ins O.srt h) h1 h2⟩
theorem pair_lift {n : Nat} {S : Int} {goal : Tb} {M : Mp} (O : KOk n S goal M) (hml : M.length ≤ 8) {l : Int} {s e : Nat} {c : Int} (h : lk M l = some (s, e, c)) : PairOk false n S goal M (.lift l) (.lay l s e c) := by
  have hl := O.label h
  have hm := lk_mem h
  have hw := O.wk (s, e, c) (List.mem_map.mpr ⟨_, hm, rfl⟩)
  have hc := O.ck (s, e, c) (List.mem_map.mpr ⟨_, hm, rfl⟩)
  refine ⟨⟨_, h⟩, ⟨by show lk (delM l M) l = none; rw [lk_del, if_pos rfl], Nat.le_trans del_len hml, hl.1, hl.2, hw.1, hw.2, hc.1, hc.2⟩, rfl, rfl, ins_del O.srt h, fun k k' h1 h2 => ?_⟩
  exact norise_ways (cov_del (l := l) (M := M)) h2 h1
theorem pair_turn {n : Nat} {S : Int} {goal : Tb} {M : Mp} (O : KOk n S goal M) {gv : Bool} {l : Int} {s e : Nat} {c c' : Int} (h : lk M l = some (s, e, c)) (hc : -1000000000000000000 ≤ c' ∧ c' ≤ 1000000000000000000) (hg : if gv = true then c ≤ c' else c' ≤ c) : PairOk gv n S goal M (.turn l c') (.turn l c) := by
  have hm := lk_mem h
  have hcc := O.ck (s, e, c) (List.mem_map.mpr ⟨_, hm, rfl⟩)
  have e0 : appM (.turn l c') M = insM l (s, e, c') M := by
    show (match lk M l with | some v => insM l (v.1, v.2.1, c') M | none => M) = _
    rw [h]
  have e1 : lk (insM l (s, e, c') M) l = some (s, e, c') := by rw [lk_ins, if_pos rfl]
  refine ⟨⟨⟨_, h⟩, hc⟩, ⟨⟨(s, e, c'), by rw [e0]; exact e1⟩, hcc⟩, rfl, rfl, ?_, fun k k' h1 h2 => ?_⟩
  · rw [e0]
    show (match lk (insM l (s, e, c') M) l with | some v => insM l (v.1, v.2.1, c) (insM l (s, e, c') M) | none => insM l (s, e, c') M) = M
    rw [e1]
    exact ins_ins O.srt h
  · rw [e0] at h2
    cases gv with
    | true => exact norise_ways (cov_turn O.srt h hg) h1 h2
    | false => exact norise_ways (cov_turn' O.srt h hg) h2 h1
theorem pair_refill {n : Nat} {S : Int} {goal : Tb} {M : Mp} (O : KOk n S goal M) {gv : Bool} {S' : Int} (O' : KOk n S' goal M) (hg : if gv = true then S ≤ S' else S' ≤ S) : PairOk gv n S goal M (.refill S') (.refill S) := by
  refine ⟨O', O, rfl, rfl, rfl, fun k k' h1 h2 => ?_⟩
  cases gv with
  | true => exact norise_store O.s1 hg (fun p x hx => (O.gb p x hx).2) h1 h2
  | false => exact norise_store O'.s1 hg (fun p x hx => (O'.gb p x hx).2) h2 h1
/-- two deeds written one behind another, in a list -/
theorem two_deeds {H : Hp} {ta a0 tb a1 a : Addr} {xs ys : List V} {w0 w1 : Str} (h1 : H ta = none) (h2 : (upd H ta (.lst xs)) a0 = none) (h3 : (upd (upd H ta (.lst xs)) a0 (.tup [.str w0, .ref ta])) tb = none)
    (h4 : (upd (upd (upd H ta (.lst xs)) a0 (.tup [.str w0, .ref ta])) tb (.lst ys)) a1 = none) (h5 : (upd (upd (upd (upd H ta (.lst xs)) a0 (.tup [.str w0, .ref ta])) tb (.lst ys)) a1 (.tup [.str w1, .ref tb])) a = none) :
    ∃ H', H' = upd (upd (upd (upd (upd H ta (.lst xs)) a0 (.tup [.str w0, .ref ta])) tb (.lst ys)) a1 (.tup [.str w1, .ref tb])) a (.lst [.ref a0, .ref a1]) ∧ Same H H' ∧ H' a = some (.lst [.ref a0, .ref a1]) ∧ H' a0 = some (.tup [.str w0, .ref ta]) ∧ H' ta = some (.lst xs) ∧ H' a1 = some (.tup [.str w1, .ref tb]) ∧ H' tb = some (.lst ys) := by
  have s1 : Same H (upd H ta (.lst xs)) := Same.new h1
  have s2 : Same (upd H ta (.lst xs)) _ := Same.new (o := .tup [.str w0, .ref ta]) h2
  have s3 : Same (upd (upd H ta (.lst xs)) a0 (.tup [.str w0, .ref ta])) _ := Same.new (o := .lst ys) h3
  have s4 : Same (upd (upd (upd H ta (.lst xs)) a0 (.tup [.str w0, .ref ta])) tb (.lst ys)) _ := Same.new (o := .tup [.str w1, .ref tb]) h4
  have s5 : Same (upd (upd (upd (upd H ta (.lst xs)) a0 (.tup [.str w0, .ref ta])) tb (.lst ys)) a1 (.tup [.str w1, .ref tb])) _ := Same.new (o := .lst [.ref a0, .ref a1]) h5
  exact ⟨_, rfl, (((s1.trans s2).trans s3).trans s4).trans s5, upd_same, s5 _ _ (s4 _ _ (s3 _ _ upd_same)), s5 _ _ (s4 _ _ (s3 _ _ (s2 _ _ upd_same))), s5 _ _ upd_same, s5 _ _ (s4 _ _ upd_same)⟩
section
variable {P : Program} {w : World} {K : PySem.W.Frag} {mg : Str → Option Value} {base : Heap} {C : Addr}

abbrev sPair : Stmt := top 61
abbrev nPair : List Str := ["_law_hand_here", "_law_state_here", "_law_gives", "_law_way", "_law_labels", "_law_start", "_law_deed_here", "_law_label", "_law_end", "_law_change_here", "_law_other", "_law_low", "_law_level"]
theorem scPair : FnScope nPair ["_law_hand_here", "_law_state_here", "_law_gives"] (defScope sPair) := ⟨rfl, rfl, rfl, by decide +kernel, rfl, by decide +kernel, by decide +kernel⟩
def spPair : Sp := fun vs H Q _ => ∃ (hd sa s d : Addr) (n : Nat) (S : Int) (goal : Tb) (M : Mp) (gv : Bool), vs = [.ref hd, .ref s, .bl gv] ∧ HandAt H hd sa ∧ SA hd H s n S goal M d ∧ KOk n S goal M ∧ M.length ≤ 8 ∧
  ∀ H' a a0 a1 D0 D1, HandAt H' hd sa → Keep [hd] H H' → H' a = some (.lst [.ref a0, .ref a1]) → DdAt H' a0 D0 → DdAt H' a1 D1 → PairOk gv n S goal M D0 D1 → Q (.ref a) H'
set_option maxHeartbeats 32000000 in
theorem cal_pair (T : Blt mg) (C1 : Cal P w K mg base "_law_draw" 3 ["_law_hand_here", "_law_many"] spDraw) (C2 : Cal P w K mg base "_law_change" 4 ["_law_hand_here", "_law_scale_here"] spChange)
    (D : Dfn K mg "_law_pair" sPair) : Cal P w K mg base "_law_pair" 5 ["_law_hand_here", "_law_state_here", "_law_gives"] spPair := by
  obtain ⟨f, fd, F, m⟩ := D
  obtain ⟨f1, fd1, G1, m1, k1, b1⟩ := C1
  obtain ⟨f2, fd2, G2, m2, k2, b2⟩ := C2
  refine ⟨f, fd, F.ok scPair (fun vs H Q E h => ?_) (fun cdv A outer s H vs Q E hr h => ?_), m, F.kp, F.binds fun _ _ _ _ _ _ us hl => match us, hl with | [_, _, _], _ => rfl⟩
  · obtain ⟨hd, sa, s, d, n, S, goal, M, gv, rfl, _⟩ := h
    rfl
  · obtain ⟨hd, sa, s, d, n, S, goal, M, gv, rfl, HA, ⟨ga, kvs, I⟩, O, hml, k⟩ := h
    have hu := hu_of hr
    have hr3 : Room 3 _ := hr.mono (by decide)
    refine ⟨_, pss_cons (ps_set (i := 3) scPair.nd rfl (.inl rfl) (pe_call G1 hr3 rfl m1 k1 b1 .nil pass0 (pa_cons (pv 0) (pa_cons pe_int pa_nil))))
      (pss_cons (ps_set (i := 4) scPair.nd rfl (.inl rfl) (pe_callB (call_sortedDI rfl) (by rfl) T.sorted (by decide +kernel) (pa_cons (pe_ix ix_list (pv 1) pe_int (fun _ _ => rfl)) pa_nil)))
      (pss_cons (ps_if (PW.pt (pw_and (pt_cmpR op_eq (pv 3) pe_int (nomark _)) (pw_and (pt_val (pv 2)) (pw_and1 (pt_cmp (pc_dnotin hu (pe_op op_pow pe_int pe_int) (pe_ix ix_list (pv 1) pe_int (fun _ _ => rfl))))))))
        (pss_cons (ps_set (i := 5) scPair.nd rfl (.inl rfl) (pe_call G1 hr3 rfl m1 k1 b1 .nil pass0 (pa_cons (pv 0) (pa_cons (pe_ix ix_list (pv 1) pe_int (fun _ _ => rfl)) pa_nil))))
        (pss_cons (ps_set (i := 6) scPair.nd rfl (.inl rfl) (pe_tup (pa_cons pe_str (pa_cons (pe_lst (pa_cons (pe_op op_pow pe_int pe_int) (pa_cons (pv 5) (pa_cons (pe_call G1 hr3 rfl m1 k1 b1 .nil pass0 (pa_cons (pv 0) (pa_cons (pe_ix ix_list (pv 1) pe_int (fun _ _ => rfl)) pa_nil)))
            (pa_cons (pe_call G2 hr rfl m2 k2 b2 .nil pass0 (pa_cons (pv 0) (pa_cons (pe_op op_pow pe_int pe_int) pa_nil))) pa_nil))))) pa_nil))))
        (pss_one (ps_ret (pe_lst (pa_cons (pv 6) (pa_cons (pe_tup (pa_cons pe_str (pa_cons (pe_lst (pa_cons (pe_op op_pow pe_int pe_int) pa_nil)) pa_nil))) pa_nil))))))) pss_nil)
      (pss_cons (ps_if (PW.pt (pw_and (pt_cmpR op_lt (pv 3) pe_int (nomark _)) (pw_and1 (pt_cmpR (op_neD hr.units) (pv 4) (pe_lst pa_nil) (nomark _)))))
        (pss_cons (ps_set (i := 7) scPair.nd rfl (.inl rfl) (pe_ix ix_list (pv 4) (pe_call G1 hr3 rfl m1 k1 b1 .nil pass0 (pa_cons (pv 0) (pa_cons (pe_callB call_len_seq (by rfl) T.len PySem.boot_len (pa_cons (pv 4) pa_nil)) pa_nil))) (fun _ _ => rfl)))
        (pss_cons (ps_asg (pe_dget hu (pe_ix ix_list (pv 1) pe_int (fun _ _ => rfl)) (pv 7) (fun _ _ => rfl)) (pg_tup rfl (pgs_cons (pg_name (i := 5) scPair.nd rfl (Or.inl rfl)) (pgs_cons (pg_name (i := 8) scPair.nd rfl (Or.inl rfl)) (pgs_cons (pg_name (i := 9) scPair.nd rfl (Or.inl rfl)) pgs_nil)))))
        (pss_cons (ps_if (PW.pt (pw_and (pt_cmpR op_eq (pv 3) pe_int (nomark _)) (pw_and1 (pt_not (pt_val (pv 2))))))
          (pss_one (ps_ret (pe_lst (pa_cons (pe_tup (pa_cons pe_str (pa_cons (pe_lst (pa_cons (pv 7) pa_nil)) pa_nil))) (pa_cons (pe_tup (pa_cons pe_str (pa_cons (pe_lst (pa_cons (pv 7) (pa_cons (pv 5) (pa_cons (pv 8) (pa_cons (pv 9) pa_nil))))) pa_nil))) pa_nil))))) pss_nil)
        (pss_cons (ps_set (i := 10) scPair.nd rfl (.inl rfl) (pe_op op_sub (pv 9) (pe_call G1 hr3 rfl m1 k1 b1 .nil pass0 (pa_cons (pv 0) (pa_cons (pe_op op_add (pe_op op_add (pe_op op_pow pe_int pe_int) pe_int) (pv 9)) pa_nil)))))
        (pss_cons (ps_if (pt_val (pv 2)) (pss_one (ps_set (i := 10) scPair.nd rfl (.inl rfl) (pe_op op_add (pv 9) (pe_call G1 hr3 rfl m1 k1 b1 .nil pass0 (pa_cons (pv 0) (pa_cons (pe_op op_sub (pe_op op_add (pe_op op_pow pe_int pe_int) pe_int) (pv 9)) pa_nil)))))) pss_nil)
        (pss_one (ps_ret (pe_lst (pa_cons (pe_tup (pa_cons pe_str (pa_cons (pe_lst (pa_cons (pv 7) (pa_cons (pv 10) pa_nil))) pa_nil))) (pa_cons (pe_tup (pa_cons pe_str (pa_cons (pe_lst (pa_cons (pv 7) (pa_cons (pv 9) pa_nil))) pa_nil))) pa_nil)))))))))) pss_nil)
      (pss_cons (ps_set (i := 11) scPair.nd rfl (.inl rfl) (pe_callB (cr_max rfl) (by rfl) T.max (by decide +kernel) (pa_cons (pe_op op_cat (pe_lst (pa_cons pe_int pa_nil)) (pe_lc (own := [("_law_level", 12)]) (g := gName 12) (tt := tTest (tOp rNotN (tVar 12) (tC .non))) (te := tVar 12) rfl scPair.nd (pi_list (pe_ix ix_list (pv 1) pe_int (fun _ _ => rfl)))
            (blkOk_by (N := nPair) (sc := defScope sPair) (by decide +kernel)) (fun _ _ _ _ _ => pg_name (i := 12) scPair.nd rfl (Or.inl rfl)) (fun _ _ _ _ _ => pts_one (pt_cmpR op_notN1 (pv 12) pe_non (nomark _))) (fun _ _ _ _ _ => pv 12))) pa_nil)))
      (pss_cons (ps_set (i := 10) scPair.nd rfl (.inl rfl) (pe_op op_add (pv 11) (pe_call G1 hr3 rfl m1 k1 b1 .nil pass0 (pa_cons (pv 0) (pa_cons (pe_op op_sub (pe_op op_add (pe_ix ix_list (pv 1) pe_int (fun _ _ => rfl)) pe_int) (pv 11)) pa_nil)))))
      (pss_cons (ps_if (pt_val (pv 2)) (pss_one (ps_set (i := 10) scPair.nd rfl (.inl rfl) (pe_op op_add (pe_ix ix_list (pv 1) pe_int (fun _ _ => rfl)) (pe_call G1 hr3 rfl m1 k1 b1 .nil pass0 (pa_cons (pv 0) (pa_cons (pe_op op_sub (pe_op op_add (pe_op op_pow pe_int pe_int) pe_int) (pe_ix ix_list (pv 1) pe_int (fun _ _ => rfl))) pa_nil)))))) pss_nil)
      (pss_one (ps_ret (pe_lst (pa_cons (pe_tup (pa_cons pe_str (pa_cons (pe_lst (pa_cons (pv 10) pa_nil)) pa_nil))) (pa_cons (pe_tup (pa_cons pe_str (pa_cons (pe_lst (pa_cons (pe_ix ix_list (pv 1) pe_int (fun _ _ => rfl)) pa_nil)) pa_nil))) pa_nil)))))))))))
      , ?_⟩
    have hsd : d ≠ hd := fun e => by
      obtain ⟨xs, hx⟩ := HA.lst
      have := I.d.ob
      rw [e, hx] at this
      cases this
    have keepI : ∀ {H' : Hp}, Keep [hd] H H' → StAt hd H' s n S goal M d ga kvs := fun kp => I.keep kp (by simpa using I.n1) (by simpa using I.n2) (by simpa using hsd)
    obtain ⟨ks, hks, hkl, hks2⟩ := I.d.keys O.srt
    have hn1 := O.n1
    have hn2 := O.n2
    have hS1 := O.s1
    have hS2 := O.s2
    have ep : (10 : Int) ^ (18 : Int).toNat = 1000000000000000000 := by decide
    have eq20 : (10 : Int) ^ (20 : Int).toNat = 100000000000000000000 := by decide
    -- way, labels
    refine ⟨_, rfl, hd, sa, 3, rfl, HA, by decide, by decide, fun H1 way w0 w1 HA1 K1 => ?_⟩
    refine ⟨_, rfl, s, _, 3, _, rfl, rfl, SqL.of (keepI K1).l, atI_nat (j := 3) rfl, d, kvs, ks, rfl, .inl (keepI K1).d.ob, hks, by omega, fun ys la hperm hle hla => ?_⟩
    have ey := hks2 ys hperm hle
    subst ey
    have nla : la ≠ hd := (hand_ne HA1 hla).symm
    have K2 : Keep [hd] H (upd H1 la (.lst ((M.map (·.1)).map V.int))) := K1.trans (Keep.new hla)
    have HA2 := HA1.same (Same.new (o := .lst ((M.map (·.1)).map V.int)) hla)
    have e2 : (upd H1 la (.lst ((M.map (·.1)).map V.int))) la = some (.lst ((M.map (·.1)).map V.int)) := upd_same
    generalize upd H1 la (.lst ((M.map (·.1)).map V.int)) = H2 at K2 HA2 e2 ⊢
    have I2 := keepI K2
    have hlen : ((M.map (·.1)).map V.int).length = M.length := by rw [List.length_map, List.length_map]
    have etv : (M.map (·.1)).map V.int = tv ((M.map (·.1)).map some) := by
      unfold tv
      rw [List.map_map, List.map_map, List.map_map]
      rfl
    have enil : ((M.map (·.1)).map some = ([] : Tb)) ↔ M = [] := by
      constructor
      · intro e
        have := congrArg List.length e
        rw [List.length_map, List.length_map] at this
        exact List.eq_nil_of_length_eq_zero this
      · intro e
        rw [e]
        rfl
    refine nx_go ?_
    dsimp only
    refine st_seq ?_
    by_cases hA : way = 0 ∧ gv = true ∧ lk M 1000000000000000000 = none
    · obtain ⟨rfl, rfl, hno⟩ := hA
      have hno' : valV kvs (Sum.inl ((10 : Int) ^ (18 : Int).toNat) : Key) = none := by rw [ep]; exact I.d.no _ hno
      refine st_yes ?_ ?_
      · intro Q' q'
        refine ⟨_, rfl, rfl, _, rfl, iteY rfl ?_⟩
        refine ⟨_, rfl, _, rfl, iteT ?_⟩
        refine ⟨_, _, rfl, rfl, ⟨by decide, by decide, by decide⟩, _, rfl, s, _, 3, _, rfl, rfl, SqL.of I2.l, atI_nat (j := 3) rfl, d, _, rfl, DGet.k (k := Sum.inl ((10 : Int) ^ (18 : Int).toNat)) I2.d.ob, _, rfl, ?_⟩
        rw [hno']
        exact q'
      · -- a way laid, and lifted
        refine ⟨_, rfl, _, rfl, s, _, 0, _, rfl, rfl, SqL.of I2.l, atI_nat (j := 0) rfl, hd, sa, _, rfl, HA2, by omega, by omega, fun H3 st st0 st1 HA3 K3 => ?_⟩
        have K03 := K2.trans K3
        have I3 := keepI K03
        refine ⟨_, _, rfl, rfl, ⟨by decide, by decide, by decide⟩, _, rfl, _, rfl, _, rfl, s, _, 0, _, rfl, rfl, SqL.of I3.l, atI_nat (j := 0) rfl, hd, sa, _, rfl, HA3, by omega, by omega, fun H4 en en0 en1 HA4 K4 => ?_⟩
        refine ⟨_, rfl, _, _, rfl, rfl, ⟨by decide, by decide, by decide⟩, hd, sa, _, rfl, HA4, by decide, by decide, fun H5 c c0 c1 HA5 K5 => ⟨(by show 4 ≤ sizeLine; decide), fun ta hta => ⟨(by show 2 ≤ sizeLine; decide), fun a0 ha0 => ?_⟩⟩⟩
        refine ⟨_, rfl, _, _, rfl, rfl, ⟨by decide, by decide, by decide⟩, (by show 1 ≤ sizeLine; decide), fun tb htb => ⟨(by show 2 ≤ sizeLine; decide), fun a1 ha1 => ⟨(by show 2 ≤ sizeLine; decide), fun a ha => ?_⟩⟩⟩
        obtain ⟨H6, e6, s6, ea, ea0, eta, ea1, etb⟩ := two_deeds hta ha0 htb ha1 ha
        rw [ep] at c0 c1
        obtain ⟨stn, rfl⟩ : ∃ a : Nat, st = (a : Int) := ⟨st.toNat, by omega⟩
        obtain ⟨enn, rfl⟩ : ∃ a : Nat, en = (a : Int) := ⟨en.toNat, by omega⟩
        have := k H6 a a0 a1 (.lay ((10 : Int) ^ (18 : Int).toNat) stn enn c) (.lift ((10 : Int) ^ (18 : Int).toNat)) (HA5.same s6) (((K03.trans K4).trans K5).trans (Same.keep s6).of) ea ⟨ta, ea0, eta⟩ ⟨tb, ea1, etb⟩
          (pair_lay O hml (by rw [ep]; exact hno) ⟨by decide, by decide⟩ (by omega) (by omega) ⟨c0, c1⟩)
        rw [e6] at this
        exact this
    refine st_no ?_ ?_
    · intro Q' q'
      refine ⟨_, rfl, rfl, _, rfl, ?_⟩
      by_cases hw : way = 0
      · refine iteY (by rw [hw]) ?_
        cases gv with
        | false => exact ⟨_, rfl, _, rfl, iteF q'⟩
        | true =>
          refine ⟨_, rfl, _, rfl, iteT ?_⟩
          refine ⟨_, _, rfl, rfl, ⟨by decide, by decide, by decide⟩, _, rfl, s, _, 3, _, rfl, rfl, SqL.of I2.l, atI_nat (j := 3) rfl, d, _, rfl, DGet.k (k := Sum.inl ((10 : Int) ^ (18 : Int).toNat)) I2.d.ob, _, rfl, ?_⟩
          cases hv : lk M 1000000000000000000 with
          | none => exact (hA ⟨hw, rfl, hv⟩).elim
          | some v =>
            obtain ⟨b, e1, _⟩ := I.d.yes _ v hv
            rw [ep, e1]
            exact q'
      · exact iteN (fun h => hw (V.int.inj h)) q'
    refine st_next ?_
    dsimp only
    refine st_seq ?_
    by_cases hB : way < 2 ∧ M ≠ []
    · refine st_yesH (P := fun H' => Same H2 H') ?_ fun H3 s3 => ?_
      · intro Q' q'
        refine ⟨_, rfl, _, _, rfl, rfl, _, rfl, iteY hB.1 ?_⟩
        refine ⟨_, rfl, by show 0 ≤ sizeLine; decide, fun e he => ?_⟩
        have s3 : Same H2 (upd H2 e (.lst [])) := Same.new he
        refine ⟨td _, td [], dp_td (SqL.of (by rw [← etv]; exact s3 _ _ e2)), dp_td (SqL.of upd_same), shaped_td _, shaped_td _, _, rfl, ?_⟩
        rw [eqv_td]
        have ed : decide ((M.map (·.1)).map some = ([] : Tb)) = false := decide_eq_false fun h => hB.2 (enil.mp h)
        rw [ed]
        exact q' _ s3
      · have K3 := K2.trans (Same.keep s3).of
        have HA3 := HA2.same s3
        have e3 := s3 _ _ e2
        have I3 := keepI K3
        have hpos : 1 ≤ M.length := by
          cases hM : M with
          | nil => exact (hB.2 hM).elim
          | cons a b => simp
        -- label = labels[draw(len(labels))]
        refine ⟨_, rfl, _, rfl, _, rfl, la, _, rfl, .inl (SqL.of e3), hd, sa, _, rfl, HA3, by rw [hlen]; omega, by rw [hlen]; omega, fun H4 z z0 z1 HA4 K4 => ?_⟩
        rw [hlen] at z1
        have hz : z.toNat < M.length := by omega
        obtain ⟨⟨l, ws, we, wc⟩, hq⟩ : ∃ q, M[z.toNat]? = some q := ⟨_, List.getElem?_eq_getElem hz⟩
        have hlk : lk M l = some (ws, we, wc) := mem_lk O.srt (List.mem_of_getElem? hq)
        have K04 := K3.trans K4
        have I4 := keepI K04
        have hck := O.ck (ws, we, wc) (List.mem_map.mpr ⟨_, lk_mem hlk, rfl⟩)
        have hck : -1000000000000000000 ≤ wc ∧ wc ≤ 1000000000000000000 := hck
        obtain ⟨b, eb1, eb2⟩ := I4.d.yes _ _ hlk
        refine ⟨la, _, z, .int l, rfl, rfl, SqL.of (K4.one e3 nla), at_of (j := z.toNat) (by omega) (by rw [List.getElem?_map, List.getElem?_map, hq]; rfl), ?_⟩
        -- start, end, change = state[3][label]
        refine ⟨_, rfl, s, _, 3, _, rfl, rfl, SqL.of I4.l, atI_nat (j := 3) rfl, _, rfl, d, .ref b, rfl, by rw [← eb1]; exact DGet.k (k := Sum.inl l) I4.d.ob, b, _, rfl, SqT.of eb2, rfl, _, _, rfl, _, _, rfl, _, _, rfl, rfl, ?_⟩
        dsimp only
        refine st_seq ?_
        by_cases hC : way = 0 ∧ gv = false
        · obtain ⟨rfl, rfl⟩ := hC
          refine st_yes (ans_and (ans_eq (val_var rfl) val_c rfl (by decide)) (ans_not (b := false) (ans_val (val_var rfl)))) ?_
          refine ⟨_, rfl, (by show 1 ≤ sizeLine; decide), fun ta hta => ⟨(by show 2 ≤ sizeLine; decide), fun a0 ha0 => ?_⟩⟩
          refine ⟨_, rfl, _, rfl, _, rfl, _, rfl, (by show 4 ≤ sizeLine; decide), fun tb htb => ⟨(by show 2 ≤ sizeLine; decide), fun a1 ha1 => ⟨(by show 2 ≤ sizeLine; decide), fun a ha => ?_⟩⟩⟩
          obtain ⟨H6, e6, s6, ea, ea0, eta, ea1, etb⟩ := two_deeds hta ha0 htb ha1 ha
          have := k H6 a a0 a1 (.lift l) (.lay l ws we wc) (HA4.same s6) (K04.trans (Same.keep s6).of) ea ⟨ta, ea0, eta⟩ ⟨tb, ea1, etb⟩ (pair_lift O hml hlk)
          rw [e6] at this
          exact this
        · refine st_no ?_ ?_
          · by_cases hw : way = 0
            · have hg : gv = true := by
                cases gv with
                | true => rfl
                | false => exact (hC ⟨hw, rfl⟩).elim
              subst hg
              exact ans_and (ans_eq (val_var rfl) val_c rfl (by rw [hw]; decide)) (ans_not (b := true) (ans_val (val_var rfl)))
            · exact ans_and0 (ans_eq (val_var rfl) val_c rfl (decide_eq_false fun h => hw (V.int.inj h)))
          refine st_next ?_
          -- other = change - draw(10 ** 18 + 1 + change)
          refine ⟨_, rfl, _, rfl, _, _, rfl, rfl, ⟨by decide, by decide, by decide⟩, _, _, rfl, rfl, _, rfl, _, _, rfl, rfl, hd, sa, _, rfl, HA4, ?_, ?_, fun H5 u u0 u1 HA5 K5 => ⟨_, _, rfl, rfl, ?_⟩⟩
          · rw [ep]; omega
          · rw [ep]; omega
          rw [ep] at u1
          have K05 := K04.trans K5
          cases gv with
          | false =>
            refine ⟨_, rfl, _, rfl, iteF ?_⟩
            refine ⟨_, rfl, _, rfl, (by show 2 ≤ sizeLine; decide), fun ta hta => ⟨(by show 2 ≤ sizeLine; decide), fun a0 ha0 => ?_⟩⟩
            refine ⟨_, rfl, _, rfl, (by show 2 ≤ sizeLine; decide), fun tb htb => ⟨(by show 2 ≤ sizeLine; decide), fun a1 ha1 => ⟨(by show 2 ≤ sizeLine; decide), fun a ha => ?_⟩⟩⟩
            obtain ⟨H6, e6, s6, ea, ea0, eta, ea1, etb⟩ := two_deeds hta ha0 htb ha1 ha
            have := k H6 a a0 a1 (.turn l (wc - u)) (.turn l wc) (HA5.same s6) (K05.trans (Same.keep s6).of) ea ⟨ta, ea0, eta⟩ ⟨tb, ea1, etb⟩ (pair_turn O hlk ⟨by omega, by omega⟩ (by show wc - u ≤ wc; omega))
            rw [e6] at this
            exact this
          | true =>
            refine ⟨_, rfl, _, rfl, iteT ?_⟩
            refine ⟨_, rfl, _, rfl, _, _, rfl, rfl, ⟨by decide, by decide, by decide⟩, _, _, rfl, rfl, _, rfl, _, _, rfl, rfl, hd, sa, _, rfl, HA5, ?_, ?_, fun H6 x x0 x1 HA6 K6 => ⟨_, _, rfl, rfl, ?_⟩⟩
            · rw [ep]; omega
            · rw [ep]; omega
            rw [ep] at x1
            have K06 := K05.trans K6
            refine ⟨_, rfl, _, rfl, (by show 2 ≤ sizeLine; decide), fun ta hta => ⟨(by show 2 ≤ sizeLine; decide), fun a0 ha0 => ?_⟩⟩
            refine ⟨_, rfl, _, rfl, (by show 2 ≤ sizeLine; decide), fun tb htb => ⟨(by show 2 ≤ sizeLine; decide), fun a1 ha1 => ⟨(by show 2 ≤ sizeLine; decide), fun a ha => ?_⟩⟩⟩
            obtain ⟨H7, e7, s7, ea, ea0, eta, ea1, etb⟩ := two_deeds hta ha0 htb ha1 ha
            have := k H7 a a0 a1 (.turn l (wc + x)) (.turn l wc) (HA6.same s7) (K06.trans (Same.keep s7).of) ea ⟨ta, ea0, eta⟩ ⟨tb, ea1, etb⟩ (pair_turn O hlk ⟨by omega, by omega⟩ (by show wc ≤ wc + x; omega))
            rw [e7] at this
            exact this
    · refine st_noH (P := fun H' => Same H2 H') ?_ fun H3 s3 => ?_
      · intro Q' q'
        refine ⟨_, rfl, _, _, rfl, rfl, _, rfl, ?_⟩
        by_cases hw : way < 2
        · refine iteY hw ?_
          have hM : M = [] := Classical.byContradiction fun h => hB ⟨hw, h⟩
          refine ⟨_, rfl, by show 0 ≤ sizeLine; decide, fun e he => ?_⟩
          have s3 : Same H2 (upd H2 e (.lst [])) := Same.new he
          refine ⟨td _, td [], dp_td (SqL.of (by rw [← etv]; exact s3 _ _ e2)), dp_td (SqL.of upd_same), shaped_td _, shaped_td _, _, rfl, ?_⟩
          rw [eqv_td]
          have ed : decide ((M.map (·.1)).map some = ([] : Tb)) = true := decide_eq_true (enil.mpr hM)
          rw [ed]
          exact q' _ s3
        · exact iteN hw (q' _ (Same.refl _))
      refine st_next ?_
      have K3 := K2.trans (Same.keep s3).of
      have HA3 := HA2.same s3
      have I3 := keepI K3
      -- low
      refine low_run (K := K) (j := 12) I3 rfl (by show 12 < 13; decide) (by rw [O.gl]; omega) O.gb O.s1 fun H4 low s4 l0 l1 lall => ?_
      have K04 := K3.trans (Same.keep s4).of
      have I4 := keepI K04
      have HA4 := HA3.same s4
      -- other = low + draw(state[1] + 1 - low)
      refine ⟨_, rfl, _, rfl, _, rfl, s, _, 1, _, rfl, rfl, SqL.of I4.l, atI_nat (j := 1) rfl, _, _, rfl, rfl, _, rfl, _, _, rfl, rfl, hd, sa, _, rfl, HA4, by omega, by omega, fun H5 u u0 u1 HA5 K5 => ⟨_, _, rfl, rfl, ?_⟩⟩
      have K05 := K04.trans K5
      have I5 := keepI K05
      have okS : ∀ S' : Int, low ≤ S' → S' ≤ 100000000000000000000 → KOk n S' goal M := fun S' h1 h2 =>
        ⟨O.n1, O.n2, by omega, h2, O.gl, fun p y hy => ⟨(O.gb p y hy).1, by have := lall p y hy; omega⟩, O.srt, O.ml, O.wk, O.ck, O.lb⟩
      cases gv with
      | false =>
        refine ⟨_, rfl, _, rfl, iteF ?_⟩
        refine ⟨_, rfl, (by show 1 ≤ sizeLine; decide), fun ta hta => ⟨(by show 2 ≤ sizeLine; decide), fun a0 ha0 => ?_⟩⟩
        have I6 := keepI ((K05.trans (Keep.new hta)).trans (Keep.new (o := .tup [.str "refill", .ref ta]) ha0))
        refine ⟨_, rfl, s, _, 1, _, rfl, rfl, SqL.of I6.l, atI_nat (j := 1) rfl, (by show 1 ≤ sizeLine; decide), fun tb htb => ⟨(by show 2 ≤ sizeLine; decide), fun a1 ha1 => ⟨(by show 2 ≤ sizeLine; decide), fun a ha => ?_⟩⟩⟩
        obtain ⟨H7, e7, s7, ea, ea0, eta, ea1, etb⟩ := two_deeds hta ha0 htb ha1 ha
        have := k H7 a a0 a1 (.refill (low + u)) (.refill S) (HA5.same s7) (K05.trans (Same.keep s7).of) ea ⟨ta, ea0, eta⟩ ⟨tb, ea1, etb⟩ (pair_refill O (okS _ (by omega) (by omega)) (by show low + u ≤ S; omega))
        rw [e7] at this
        exact this
      | true =>
        refine ⟨_, rfl, _, rfl, iteT ?_⟩
        refine ⟨_, rfl, s, _, 1, _, rfl, rfl, SqL.of I5.l, atI_nat (j := 1) rfl, _, rfl, _, _, rfl, rfl, ⟨by decide, by decide, by decide⟩, _, _, rfl, rfl, _, rfl, s, _, 1, _, rfl, rfl, SqL.of I5.l, atI_nat (j := 1) rfl, _, _, rfl, rfl, hd, sa, _, rfl, HA5, ?_, ?_, fun H6 x x0 x1 HA6 K6 => ⟨_, _, rfl, rfl, ?_⟩⟩
        · rw [eq20]; omega
        · rw [eq20]; omega
        rw [eq20] at x1
        have K06 := K05.trans K6
        refine ⟨_, rfl, (by show 1 ≤ sizeLine; decide), fun ta hta => ⟨(by show 2 ≤ sizeLine; decide), fun a0 ha0 => ?_⟩⟩
        have I7 := keepI ((K06.trans (Keep.new hta)).trans (Keep.new (o := .tup [.str "refill", .ref ta]) ha0))
        refine ⟨_, rfl, s, _, 1, _, rfl, rfl, SqL.of I7.l, atI_nat (j := 1) rfl, (by show 1 ≤ sizeLine; decide), fun tb htb => ⟨(by show 2 ≤ sizeLine; decide), fun a1 ha1 => ⟨(by show 2 ≤ sizeLine; decide), fun a ha => ?_⟩⟩⟩
        obtain ⟨H7, e7, s7, ea, ea0, eta, ea1, etb⟩ := two_deeds hta ha0 htb ha1 ha
        have := k H7 a a0 a1 (.refill (S + x)) (.refill S) (HA6.same s7) (K06.trans (Same.keep s7).of) ea ⟨ta, ea0, eta⟩ ⟨tb, ea1, etb⟩ (pair_refill O (okS _ (by omega) (by omega)) (by show S ≤ S + x; omega))
        rw [e7] at this
        exact this
end
end Tr


set_option Elab.async false
set_option linter.all false
set_option maxRecDepth 100000
set_option maxHeartbeats 4000000
/-! right, and the law -/
namespace Tr
open PySem PySem.Spec PyProof.Rows L2
def tdn (ws : List Nat) : PyData := td (ws.map fun q : Nat => some (q : Int))
def td2 (a b : List Nat) : PyData := .tuple [tdn a, tdn b]
theorem dp_tdn {K : PySem.W.Frag} {H : Hp} {a : Addr} {ws : List Nat} (h : H a = some (.lst (iv ws))) : Dp K H (.ref a) (tdn ws) := dp_td (SqL.of (by rw [← iv_tv]; exact h))
theorem dp_td2 {K : PySem.W.Frag} {H : Hp} {t x y : Addr} {a b : List Nat} (ht : H t = some (.tup [.ref x, .ref y])) (hx : H x = some (.lst (iv a))) (hy : H y = some (.lst (iv b))) : Dp K H (.ref t) (td2 a b) := .tup (SqT.of ht) (.cons (dp_tdn hx) (.cons (dp_tdn hy) .nil))
theorem shaped_td2 (a b : List Nat) : SeqAt.shaped (td2 a b) = true := by
  unfold SeqAt.shaped td2 tdn
  simp [PyData.canLay0, PyData.canLayAll0, PyData.depth, PyData.depthAll, lay_td, depth_td]
theorem eqv_td2 (a b : List Nat) : PyData.eqv (td2 a b) (td2 a b) = true := by
  unfold td2 tdn
  simp [PyData.eqv, PyData.eqvAll, eqv_td]
theorem HandAt.lists {H H' : Hp} {hd sa : Addr} (h : HandAt H hd sa) (kl : ∀ b xs, H b = some (.lst xs) → H' b = some (.lst xs)) : HandAt H' hd sa := by
  obtain ⟨ns, i, c, k, x, y, h, hn, hi⟩ := h
  exact ⟨ns, i, c, k, x, y, ⟨kl _ _ h.h, kl _ _ h.s, h.n⟩, hn, hi⟩
section
variable {P : Program} {w : World} {K : PySem.W.Frag} {mg : Str → Option Value} {base : Heap} {C : Addr}

abbrev sRight : Stmt := top 62
abbrev nRight : List Str := ["_law_keeper", "_law_pair_here", "_law_gives", "_law_ahead", "_law_told", "_law_behind", "_law_back"]
theorem scRight : FnScope nRight ["_law_keeper", "_law_pair_here", "_law_gives"] (defScope sRight) := ⟨rfl, rfl, rfl, by decide +kernel, rfl, by decide +kernel, by decide +kernel⟩
def spRight (C : Addr) : Sp := fun vs H Q _ => ∃ (hd p dk a a0 a1 : Addr) (n : Nat) (S : Int) (goal : Tb) (M : Mp) (known : Tb) (gv : Bool) (D0 D1 : Dd), vs = [.ref p, .ref a, .bl gv] ∧ KA C hd H p dk n S goal M known ∧ KOk n S goal M ∧ IsLeast n S (wsM M) goal known ∧
  H a = some (.lst [.ref a0, .ref a1]) ∧ DdAt H a0 D0 ∧ DdAt H a1 D1 ∧ PairOk gv n S goal M D0 D1 ∧ ∀ H', KA C hd H' p dk n S goal M known → Keep [p, dk] H H' → Q (.bl true) H'
set_option maxHeartbeats 32000000 in
theorem cal_right (T : Blt mg) (TK : TxtK K C) (C1 : Cal P w K mg base "_law_do" 11 ["_law_keeper", "_law_deed_here"] (spDo C)) (C2 : Cal P w K mg base "_law_moved" 2 ["_law_old", "_law_new"] spMoved) (M1 : MCal P w K mg base C "least" 1 ["self"] (spKLeast C))
    (D : Dfn K mg "_law_right" sRight) : Cal P w K mg base "_law_right" 12 ["_law_keeper", "_law_pair_here", "_law_gives"] (spRight C) := by
  obtain ⟨f, fd, F, m⟩ := D
  obtain ⟨f1, fd1, G1, m1, k1, b1⟩ := C1
  obtain ⟨f2, fd2, G2, m2, k2, b2⟩ := C2
  obtain ⟨f3, fd3, G3, m3, b3⟩ := M1
  refine ⟨f, fd, F.ok scRight (fun vs H Q E h => ?_) (fun cdv A outer s H vs Q E hr h => ?_), m, F.kp, F.binds fun _ _ _ _ _ _ us hl => match us, hl with | [_, _, _], _ => rfl⟩
  · obtain ⟨hd, p, dk, a, a0, a1, n, S, goal, M, known, gv, D0, D1, rfl, _⟩ := h
    rfl
  · obtain ⟨hd, p, dk, a, a0, a1, n, S, goal, M, known, gv, D0, D1, rfl, IK, O, hk, ha, hD0, hD1, PO, k⟩ := h
    have hr1 : Room 1 _ := hr.mono (by decide)
    have hr2 : Room 2 _ := hr.mono (by decide)
    refine ⟨_, pss_cons (ps_set (i := 3) scRight.nd rfl (.inl rfl) (pe_meth0 (pv 0) TK.cl m3 G3 hr1 b3 .nil pass0))
      (pss_cons (ps_set (i := 4) scRight.nd rfl (.inl rfl) (pe_call G1 hr rfl m1 k1 b1 .nil pass0 (pa_cons (pv 0) (pa_cons (pe_ix ix_list (pv 1) pe_int (fun _ _ => rfl)) pa_nil))))
      (pss_cons (ps_set (i := 5) scRight.nd rfl (.inl rfl) (pe_meth0 (pv 0) TK.cl m3 G3 hr1 b3 .nil pass0))
      (pss_cons (ps_if (PW.pt (pw_or (pt_cmpR (op_neD hr.units) (pv 4) (pe_call G2 hr2 rfl m2 k2 b2 .nil pass0 (pa_cons (pv 3) (pa_cons (pv 5) pa_nil))) (nomark _)) (pw_or1 (pt_cmpR (op_neD hr.units) (pe_ix ix_tup (pv 4) (pe_callTy call_int1 (by rfl) T.int (by decide +kernel) (pa_cons (pv 2) pa_nil)) (fun _ _ => rfl)) (pe_lst pa_nil) (nomark _)))))
        (pss_one (ps_ret pe_bl)) pss_nil)
      (pss_cons (ps_set (i := 6) scRight.nd rfl (.inl rfl) (pe_call G1 hr rfl m1 k1 b1 .nil pass0 (pa_cons (pv 0) (pa_cons (pe_ix ix_list (pv 1) pe_int (fun _ _ => rfl)) pa_nil))))
      (pss_one (ps_ret (pe_and (pe_cmpR (op_eqD hr.units) (pv 6) (pe_tup (pa_cons (pe_ix ix_tup (pv 4) pe_int (fun _ _ => rfl)) (pa_cons (pe_ix ix_tup (pv 4) pe_int (fun _ _ => rfl)) pa_nil))) (nomark _))
        (pe_one (pe_cmpR (op_eqD hr.units) (pe_meth0 (pv 0) TK.cl m3 G3 hr1 b3 .nil pass0) (pv 3) (nomark _)))))))))), ?_⟩
    obtain ⟨dx, ga, ka, kvs, I⟩ := id IK
    have hkl := hk.len
    have hn2 := O.n2
    -- ahead = keeper.least()
    refine ⟨_, rfl, p, dx, _, rfl, I.ob, fK_no _ _ _ _ _ _, hd, p, dk, n, S, goal, M, known, dx, ga, ka, kvs, rfl, I, fun q hq => ?_⟩
    have s1 : Same H (upd H q (.lst (tv known))) := Same.new hq
    have e1 : (upd H q (.lst (tv known))) q = some (.lst (tv known)) := upd_same
    have IK1 := IK.same s1
    have hD01 := hD0.same s1
    have hD11 := hD1.same s1
    generalize upd H q (.lst (tv known)) = H1 at s1 e1 IK1 hD01 hD11 ⊢
    -- told = _law_do(keeper, pair[0])
    refine ⟨_, rfl, _, rfl, a, _, 0, _, rfl, rfl, SqL.of (s1 _ _ ha), atI_nat (j := 0) rfl, hd, p, dk, a0, n, S, goal, M, known, D0, rfl, IK1, O, hkl, hD01, PO.ok0, fun H2 known2 fa ra tp K2 IK2 hk2 etp efa era => ?_⟩
    have kl1 := K2.lists IK1.objs.1 IK1.objs.2
    have hk2l := hk2.len
    have hD12 := hD11.mono kl1 K2.2
    have e2 := kl1 _ _ e1
    have ha2 := kl1 _ _ (s1 _ _ ha)
    -- behind = keeper.least()
    obtain ⟨dx2, ga2, ka2, kvs2, I2⟩ := id IK2
    refine ⟨_, rfl, p, dx2, _, rfl, I2.ob, fK_no _ _ _ _ _ _, hd, p, dk, n, _, _, _, known2, dx2, ga2, ka2, kvs2, rfl, I2, fun q2 hq2 => ?_⟩
    have s3 : Same H2 (upd H2 q2 (.lst (tv known2))) := Same.new hq2
    have e3 : (upd H2 q2 (.lst (tv known2))) q2 = some (.lst (tv known2)) := upd_same
    have IK3 := IK2.same s3
    generalize upd H2 q2 (.lst (tv known2)) = H3 at s3 e3 IK3 ⊢
    -- told is what moved
    refine ⟨_, rfl, _, rfl, _, rfl, q, q2, known, known2, n, rfl, s3 _ _ e2, e3, hkl, hk2l, by omega, fun H4 tp2 fa2 ra2 s4 etp2 efa2 era2 => ?_⟩
    have s34 := s3.trans s4
    refine ⟨_, _, dp_td2 (s34 _ _ etp) (s34 _ _ efa) (s34 _ _ era), dp_td2 etp2 efa2 era2, shaped_td2 _ _, shaped_td2 _ _, _, rfl, ?_⟩
    rw [eqv_td2]
    refine iteF ?_
    have hord := PO.ord known known2 hk hk2
    -- and the one list is empty
    have rest : ∀ H5, Same H4 H5 → (tSeq (tAsg (tCall (spDo C) [] E0 (tCons (tVar 0) (tCons (tOp (rIxL K) (tVar 1) (tC (.int 1))) tNil))) (gName 6))
        (tRet (tAndV (tOp (rEqD K) (tVar 6) (tTup (tCons (tOp (rIxT K) (tVar 4) (tC (.int 1))) (tCons (tOp (rIxT K) (tVar 4) (tC (.int 0))) tNil)))) (tOp (rEqD K) (tMeth C "least" (spKLeast C) [] E0 (tVar 0) tNil) (tVar 3)))))
        { nx := fun _ H' => Q .non H', rt := Q } [some (.ref p), some (.ref a), some (.bl gv), some (.ref q), some (.ref tp), some (.ref q2), none] H5 := fun H5 s5 => by
      have s35 := s34.trans s5
      have IK5 := IK2.same s35
      have O2 := O.app PO.ok0
      refine ⟨_, rfl, _, rfl, a, _, 1, _, rfl, rfl, SqL.of (s35 _ _ ha2), atI_nat (j := 1) rfl, hd, p, dk, a1, n, _, _, _, known2, D1, rfl, IK5, O2, hk2l, hD12.same s35, PO.ok1, fun H6 known3 fa3 ra3 tp3 K6 IK6 hk6 etp3 efa3 era3 => ?_⟩
      rw [PO.eS, PO.eG, PO.eM] at IK6 hk6
      have ek : known3 = known := hk6.unique hk
      subst ek
      have kl5 := K6.lists IK5.objs.1 IK5.objs.2
      have etp6 := K6.2 _ _ (s35 _ _ etp)
      refine ⟨_, rfl, _, rfl, tp, _, 1, _, rfl, rfl, SqT.of etp6, atI_nat (j := 1) rfl, _, rfl, tp, _, 0, _, rfl, rfl, SqT.of etp6, atI_nat (j := 0) rfl, (by show 2 ≤ sizeLine; decide), fun t ht => ?_⟩
      have s7 : Same H6 (upd H6 t (.tup [.ref ra, .ref fa])) := Same.new ht
      have et : (upd H6 t (.tup [.ref ra, .ref fa])) t = some (.tup [.ref ra, .ref fa]) := upd_same
      have IK7 := IK6.same s7
      generalize upd H6 t (.tup [.ref ra, .ref fa]) = H7 at s7 et IK7 ⊢
      have era7 := s7 _ _ (kl5 _ _ (s35 _ _ era))
      have efa7 := s7 _ _ (kl5 _ _ (s35 _ _ efa))
      refine ⟨_, _, dp_td2 (s7 _ _ etp3) (s7 _ _ efa3) (s7 _ _ era3), dp_td2 et era7 efa7, shaped_td2 _ _, shaped_td2 _ _, _, rfl, ?_⟩
      rw [eqv_td2]
      refine iteT ?_
      obtain ⟨dx7, ga7, ka7, kvs7, I7⟩ := id IK7
      refine ⟨_, rfl, p, dx7, _, rfl, I7.ob, fK_no _ _ _ _ _ _, hd, p, dk, n, _, _, _, known3, dx7, ga7, ka7, kvs7, rfl, I7, fun q3 hq3 => ?_⟩
      have s8 : Same H7 (upd H7 q3 (.lst (tv known3))) := Same.new hq3
      have e8 : (upd H7 q3 (.lst (tv known3))) q3 = some (.lst (tv known3)) := upd_same
      have IK8 := IK7.same s8
      generalize upd H7 q3 (.lst (tv known3)) = H8 at s8 e8 IK8 ⊢
      have eq8 := s8 _ _ (s7 _ _ (kl5 _ _ (s35 _ _ e2)))
      refine ⟨_, rfl, td known3, td known3, dp_td (SqL.of e8), dp_td (SqL.of eq8), shaped_td _, shaped_td _, ?_⟩
      rw [eqv_td]
      have ed : decide (known3 = known3) = true := decide_eq_true rfl
      rw [ed]
      exact k H8 IK8 ((((Same.keep s1).of.trans K2).trans (Same.keep s35).of).trans (K6.trans (Same.keep (s7.trans s8)).of))
    have hK : (cxOf CX0 P w K mg base nRight "_law_right" (defScope sRight) f cdv A outer s H E).nox.K = K := rfl
    cases gv with
    | true =>
      have hnr : movedL n known known2 = [] := movedL_nil (by simpa using hord)
      refine ⟨_, rfl, _, rfl, .inr ⟨true, rfl, tp, _, 1, _, rfl, rfl, SqT.of (s34 _ _ etp), atI_nat (j := 1) rfl, (by show 0 ≤ sizeLine; decide), fun e he => ?_⟩⟩
      have s5 : Same H4 (upd H4 e (.lst [])) := Same.new he
      have er := s5 _ _ (s34 _ _ era)
      rw [hnr] at er
      refine ⟨tdn [], td [], dp_tdn er, dp_td (SqL.of upd_same), shaped_td _, shaped_td _, _, rfl, ?_⟩
      rw [show tdn [] = td [] from rfl, eqv_td]
      refine iteF ?_
      exact rest _ s5
    | false =>
      have hnr : movedL n known2 known = [] := movedL_nil (by simpa using hord)
      refine ⟨_, rfl, _, rfl, .inr ⟨false, rfl, tp, _, 0, _, rfl, rfl, SqT.of (s34 _ _ etp), atI_nat (j := 0) rfl, (by show 0 ≤ sizeLine; decide), fun e he => ?_⟩⟩
      have s5 : Same H4 (upd H4 e (.lst [])) := Same.new he
      have er := s5 _ _ (s34 _ _ efa)
      rw [hnr] at er
      refine ⟨tdn [], td [], dp_tdn er, dp_td (SqL.of upd_same), shaped_td _, shaped_td _, _, rfl, ?_⟩
      rw [show tdn [] = td [] from rfl, eqv_td]
      refine iteF ?_
      exact rest _ s5
end
end Tr


set_option Elab.async false
set_option linter.all false
set_option maxRecDepth 100000
set_option maxHeartbeats 4000000
/-! the law -/
namespace Tr
open PySem PySem.Spec PyProof.Rows L2
theorem KA.hand {C hd : Addr} {H H' : Hp} {p d : Addr} {n : Nat} {S : Int} {goal : Tb} {M : Mp} {known : Tb} (h : KA C hd H p d n S goal M known) (k : Keep [hd] H H') (hh : ∃ xs, H' hd = some (.lst xs)) : KA C hd H' p d n S goal M known := by
  obtain ⟨dx, ga, ka, kvs, I⟩ := h
  exact ⟨dx, ga, ka, kvs, I.hand k hh⟩
section
variable {P : Program} {w : World} {K : PySem.W.Frag} {mg : Str → Option Value} {base : Heap} {C : Addr}
abbrev sLaw : Stmt := top 63
abbrev nLaw : List Str := ["_law_script", "_law_hand_here", "_law_many", "_law_scale_here", "_law_store_here", "_law_state_here", "_law_keeper", "_law_k", "_law_deed_here", "_law_gives"]
theorem scLaw : FnScope nLaw ["_law_script"] (defScope sLaw) := ⟨rfl, rfl, rfl, by decide +kernel, rfl, by decide +kernel, by decide +kernel⟩
def spLaw (K : PySem.W.Frag) : Sp := fun vs H Q _ => ∃ (a : Addr) (ns : List Int), vs = [.ref a] ∧ SqL K H a (ns.map V.int) ∧ ns.length ≤ 63 ∧ ∀ H', Q (.bl true) H'
/-- what holds between two turns of the law's loops -/
structure LInv (C : Addr) (H : Hp) (hd sa p dk s d : Addr) (n : Nat) (S : Int) (goal : Tb) (M : Mp) (known : Tb) : Prop where
  ha : HandAt H hd sa
  ka : KA C hd H p dk n S goal M known
  sa : SA hd H s n S goal M d
  ok : KOk n S goal M
  le : IsLeast n S (wsM M) goal known
  ml : M.length ≤ 8
  nd : d ≠ dk
set_option maxHeartbeats 32000000 in
theorem ok_law {f : Addr} {fd : FuncData} (F : Fun K "law" "law" sLaw f fd) (T : Blt mg) (TK : TxtK K C) (C1 : Cal P w K mg base "_law_hand" 1 ["_law_script"] (spHand K)) (C2 : Cal P w K mg base "_law_draw" 3 ["_law_hand_here", "_law_many"] spDraw) (C3 : Cal P w K mg base "_law_scale" 4 ["_law_hand_here"] spScale)
    (C4 : Cal P w K mg base "_law_store" 4 ["_law_hand_here", "_law_scale_here"] spStore) (C5 : Cal P w K mg base "_law_state" 1 nState spState) (C6 : Cal P w K mg base "_law_table" 4 ["_law_hand_here", "_law_many", "_law_store_here"] spTab) (I7 : ICal P w K mg base C "Keeper" 9 nKI (spKI C))
    (C8 : Cal P w K mg base "_law_deed" 5 ["_law_hand_here", "_law_state_here", "_law_scale_here", "_law_most"] spDeed) (C9 : Cal P w K mg base "_law_after" 1 ["_law_state_here", "_law_deed_here"] spAfter) (C10 : Cal P w K mg base "_law_do" 11 ["_law_keeper", "_law_deed_here"] (spDo C))
    (C11 : Cal P w K mg base "_law_right" 12 ["_law_keeper", "_law_pair_here", "_law_gives"] (spRight C)) (C12 : Cal P w K mg base "_law_pair" 5 ["_law_hand_here", "_law_state_here", "_law_gives"] spPair) : FnOk P w K mg base CX0 13 f fd ["_law_script"] (spLaw K) := by
  obtain ⟨f1, fd1, G1, m1, k1, b1⟩ := C1
  obtain ⟨f2, fd2, G2, m2, k2, b2⟩ := C2
  obtain ⟨f3, fd3, G3, m3, k3, b3⟩ := C3
  obtain ⟨f4, fd4, G4, m4, k4, b4⟩ := C4
  obtain ⟨f5, fd5, G5, m5, k5, b5⟩ := C5
  obtain ⟨f6, fd6, G6, m6, k6, b6⟩ := C6
  obtain ⟨f7, fd7, G7, m7, mc7, b7⟩ := I7
  obtain ⟨f8, fd8, G8, m8, k8, b8⟩ := C8
  obtain ⟨f9, fd9, G9, m9, k9, b9⟩ := C9
  obtain ⟨f10, fd10, G10, m10, k10, b10⟩ := C10
  obtain ⟨f11, fd11, G11, m11, k11, b11⟩ := C11
  obtain ⟨f12, fd12, G12, m12, k12, b12⟩ := C12
  refine F.ok scLaw (fun vs H Q E h => ?_) (fun cdv A outer s0 H vs Q E hr h => ?_)
  · obtain ⟨a, ns, rfl, _⟩ := h
    rfl
  · obtain ⟨a, ns, rfl, hS, hlen, k⟩ := h
    have hr1 : Room 1 _ := hr.mono (by decide)
    have hr3 : Room 3 _ := hr.mono (by decide)
    have hr4 : Room 4 _ := hr.mono (by decide)
    have hr5 : Room 5 _ := hr.mono (by decide)
    have hrK : Room (9 + 1) _ := hr.mono (by decide)
    have hr11 : Room 11 _ := hr.mono (by decide)
    refine ⟨_, pss_cons (ps_set (i := 1) scLaw.nd rfl (.inl rfl) (pe_call G1 hr1 rfl m1 k1 b1 .nil pass0 (pa_cons (pv 0) pa_nil)))
      (pss_cons (ps_set (i := 2) scLaw.nd rfl (.inl rfl) (pe_op op_add pe_int (pe_call G2 hr3 rfl m2 k2 b2 .nil pass0 (pa_cons (pv 1) (pa_cons (pe_ix ix_list (pe_lst (pa_cons pe_int (pa_cons pe_int (pa_cons pe_int (pa_cons pe_int pa_nil))))) (pe_call G2 hr3 rfl m2 k2 b2 .nil pass0 (pa_cons (pv 1) (pa_cons pe_int pa_nil))) (fun _ _ => rfl)) pa_nil)))))
      (pss_cons (ps_set (i := 3) scLaw.nd rfl (.inl rfl) (pe_call G3 hr4 rfl m3 k3 b3 .nil pass0 (pa_cons (pv 1) pa_nil)))
      (pss_cons (ps_set (i := 4) scLaw.nd rfl (.inl rfl) (pe_call G4 hr4 rfl m4 k4 b4 .nil pass0 (pa_cons (pv 1) (pa_cons (pv 3) pa_nil))))
      (pss_cons (ps_set (i := 5) scLaw.nd rfl (.inl rfl) (pe_call G5 hr1 rfl m5 k5 b5 .nil pass0 (pa_cons (pv 2) (pa_cons (pv 4) (pa_cons (pe_call G6 hr4 rfl m6 k6 b6 .nil pass0 (pa_cons (pv 1) (pa_cons (pv 2) (pa_cons (pv 4) pa_nil)))) pa_nil)))))
      (pss_cons (ps_set (i := 6) scLaw.nd rfl (.inl rfl) (pe_make m7 G7 hrK rfl mc7 b7 .nil pass0 (pa_cons (pv 2) (pa_cons (pv 4) (pa_cons (pe_callTy call_list_of (by rfl) T.list (by decide +kernel) (pa_cons (pe_ix ix_list (pv 5) pe_int (fun _ _ => rfl)) pa_nil)) pa_nil)))))
      (pss_cons (ps_for PassesOwn.never rfl (pi_range1 (by rfl) T.range (pa_cons (pe_call G2 hr3 rfl m2 k2 b2 .nil pass0 (pa_cons (pv 1) (pa_cons pe_int pa_nil))) pa_nil)) (pg_name (i := 7) scLaw.nd rfl (Or.inl rfl))
        (pss_cons (ps_set (i := 8) scLaw.nd rfl (.inl rfl) (pe_call G8 hr5 rfl m8 k8 b8 .nil pass0 (pa_cons (pv 1) (pa_cons (pv 5) (pa_cons (pv 3) (pa_cons (pe_op op_mul pe_int (pv 3)) pa_nil))))))
        (pss_cons (ps_set (i := 5) scLaw.nd rfl (.inl rfl) (pe_call G9 hr1 rfl m9 k9 b9 .nil pass0 (pa_cons (pv 5) (pa_cons (pv 8) pa_nil))))
        (pss_one (ps_expr (pe_call G10 hr11 rfl m10 k10 b10 .nil pass0 (pa_cons (pv 6) (pa_cons (pv 8) pa_nil))))))))
      (pss_cons (ps_for PassesOwn.never rfl (pi_range1 (by rfl) T.range (pa_cons pe_int pa_nil)) (pg_name (i := 7) scLaw.nd rfl (Or.inl rfl))
        (pss_cons (ps_set (i := 9) scLaw.nd rfl (.inl rfl) (pe_cmpR op_eq (pe_call G2 hr3 rfl m2 k2 b2 .nil pass0 (pa_cons (pv 1) (pa_cons pe_int pa_nil))) pe_int (nomark _)))
        (pss_one (ps_if (pt_not (pt_val (pe_call G11 hr rfl m11 k11 b11 .nil pass0 (pa_cons (pv 6) (pa_cons (pe_call G12 hr5 rfl m12 k12 b12 .nil pass0 (pa_cons (pv 1) (pa_cons (pv 5) (pa_cons (pv 9) pa_nil)))) (pa_cons (pv 9) pa_nil)))))) (pss_one (ps_ret pe_bl)) pss_nil))))
      (pss_one (ps_ret pe_bl))))))))), ?_⟩
    -- hand
    refine ⟨_, rfl, a, ns, rfl, hS, hlen, fun H1 hd sa s1 HA1 => ?_⟩
    -- many
    refine ⟨_, rfl, (by show 4 ≤ sizeLine; decide), fun l hl => ?_⟩
    have nl := hand_ne HA1 hl
    refine ⟨_, rfl, hd, sa, 4, rfl, HA1.same (Same.new hl), by decide, by decide, fun H2 z z0 z1 HA2 K2 => ?_⟩
    have hl2 := K2.one upd_same nl.symm
    obtain ⟨mm, hmm, hmm1, hmm2⟩ : ∃ mm, atI [V.int 6, V.int 6, V.int 6, V.int 12] z = some (.int mm) ∧ 1 ≤ mm ∧ mm ≤ 12 := by
      have hz : z = 0 ∨ z = 1 ∨ z = 2 ∨ z = 3 := by omega
      rcases hz with e | e | e | e
      · exact ⟨6, at_of (j := 0) (by omega) rfl, by decide, by decide⟩
      · exact ⟨6, at_of (j := 1) (by omega) rfl, by decide, by decide⟩
      · exact ⟨6, at_of (j := 2) (by omega) rfl, by decide, by decide⟩
      · exact ⟨12, at_of (j := 3) (by omega) rfl, by decide, by decide⟩
    refine ⟨l, _, z, _, rfl, rfl, SqL.of hl2, hmm, hd, sa, mm, rfl, HA2, hmm1, by omega, fun H3 v v0 v1 HA3 K3 => ⟨_, _, rfl, rfl, ?_⟩⟩
    obtain ⟨n, hn⟩ : ∃ n : Nat, 1 + v = (n : Int) := ⟨(1 + v).toNat, by omega⟩
    show gName 2 (V.int (1 + v)) _ _ _
    rw [hn]
    -- scale, store
    refine ⟨_, rfl, hd, sa, rfl, HA3, fun H4 sc sc1 sc2 HA4 K4 => ?_⟩
    refine ⟨_, rfl, _, rfl, hd, sa, sc, rfl, HA4, sc1, sc2, fun H5 Sx S1 S2 HA5 K5 => ?_⟩
    -- state
    refine ⟨_, rfl, _, rfl, _, rfl, _, rfl, _, rfl, hd, sa, n, Sx, rfl, HA5, by omega, S1, S2, fun H6 ga goal HA6 K6 nga ega gl gb => ?_⟩
    refine ⟨hd, ga, n, Sx, goal, rfl, ega, HA6.lst, fun H7 s d s7 SA7 => ?_⟩
    have HA7 := HA6.same s7
    have O : KOk n Sx goal [] := ⟨by omega, by omega, S1, S2, gl, gb, List.Pairwise.nil, by decide, fun v hv => by simp [wsM] at hv, fun v hv => by simp [wsM] at hv, fun q hq => by simp at hq⟩
    -- keeper
    obtain ⟨gs, kvs, IS⟩ := id SA7
    refine ⟨_, rfl, _, rfl, _, rfl, s, _, 2, _, rfl, rfl, SqL.of IS.l, atI_nat (j := 2) rfl, gs, _, rfl, .inl (SqL.of IS.g), fun g2 hg2 => ?_⟩
    have s8 : Same H7 (upd H7 g2 (.lst (tv goal))) := Same.new hg2
    have e8 : (upd H7 g2 (.lst (tv goal))) g2 = some (.lst (tv goal)) := upd_same
    have HA8 := HA7.same s8
    have SA8 := SA7.same s8
    generalize upd H7 g2 (.lst (tv goal)) = H8 at s8 e8 HA8 SA8 ⊢
    intro p dx hp hdx hne
    have hp2 : (upd H8 dx (.own p)) p = none := by rw [upd_ne hne.symm]; exact hp
    have s9 : Same H8 (upd (upd H8 dx (.own p)) p (.ins C dx [])) := (Same.new hdx).trans (Same.new hp2)
    obtain ⟨xh, exh⟩ := HA8.lst
    refine ⟨hd, p, dx, g2, n, Sx, goal, rfl, upd_same, s9 _ _ e8, ⟨xh, s9 _ _ exh⟩, O, fun H10 dk known sb hdk KA10 hk => ⟨rfl, ?_⟩⟩
    have s10 : Same H8 H10 := fun b o e => sb b o (s9 b o e) (ne_of_none e hp)
    have nd10 : d ≠ dk := by
      obtain ⟨gs', kvs', IS'⟩ := SA8
      exact ne_of_none (s9 _ _ IS'.d.ob) hdk
    have L10 : LInv C H10 hd sa p dk s d n Sx goal [] known := ⟨HA8.same s10, KA10, SA8.same s10, O, hk, by decide, nd10⟩
    -- up to eight deeds
    refine ⟨_, rfl, hd, sa, 9, rfl, L10.ha, by decide, by decide, fun H11 t t0 t1 HA11 K11 => ⟨t, rfl, by omega, by omega, ?_⟩⟩
    have L11 : LInv C H11 hd sa p dk s d n Sx goal [] known := ⟨HA11, L10.ka.hand K11 HA11.lst, L10.sa.hand K11 L10.ha.lst, O, hk, by decide, nd10⟩
    refine for_range (lo := 0) (n := t.toNat) (fun i σ H' => ∃ (s d : Addr) (S : Int) (goal : Tb) (M : Mp) (known : Tb) (v7 v8 : Option V), σ = [some (.ref a), some (.ref hd), some (.int (n : Int)), some (.int sc), some (.int Sx), some (.ref s), some (.ref p), v7, v8, none] ∧ LInv C H' hd sa p dk s d n S goal M known)
      ⟨s, d, Sx, goal, [], known, none, none, rfl, L11⟩ ?_ ?_
    · rintro i σ H' hi ⟨s, d, S, goal, M, known, v7, v8, rfl, L⟩
      obtain ⟨LH, LK, LS, LO, LL, LM, LN⟩ := L
      -- deed
      refine ⟨_, rfl, _, rfl, _, rfl, _, rfl, _, _, rfl, rfl, .inl ⟨by decide, by decide⟩, hd, sa, s, d, n, S, goal, M, sc, 4 * sc, rfl, LH, LS, LO, LM, sc1, sc2, by omega, by omega, fun H1 ad D HA1 K1 hD ok hml => ?_⟩
      have SA1 := LS.hand K1 LH.lst
      have KA1 := LK.hand K1 HA1.lst
      -- state
      refine ⟨_, rfl, _, rfl, hd, s, ad, d, n, S, goal, M, D, rfl, HA1.lst, SA1, hD, LO.srt, by omega, ok, fun H2 s' d' s2 hd' SA2 => ?_⟩
      have nd' : d' ≠ dk := by
        obtain ⟨kvs, e⟩ := KA1.objs.2
        exact (ne_of_none e hd').symm
      have KA2 := KA1.same s2
      -- the keeper's deed
      refine ⟨_, rfl, _, rfl, hd, p, dk, ad, n, S, goal, M, known, D, rfl, KA2, LO, LL.len, hD.same s2, ok, fun H3 known' fa ra tp K3 KA3 hk3 _ _ _ => ?_⟩
      have kl := K3.lists KA2.objs.1 KA2.objs.2
      exact ⟨s', d', _, _, _, known', _, _, rfl, (HA1.same s2).lists kl, KA3, SA2.deed K3 KA2.objs.1 KA2.objs.2 nd', LO.app ok, hk3, hml, nd'⟩
    · rintro σ H' ⟨s, d, S, goal, M, known, v7, v8, rfl, L⟩
      -- three pairs
      refine ⟨3, rfl, by decide, by decide, ?_⟩
      refine for_range (lo := 0) (n := (3 : Int).toNat) (fun i σ H' => ∃ (v7 v9 : Option V), σ = [some (.ref a), some (.ref hd), some (.int (n : Int)), some (.int sc), some (.int Sx), some (.ref s), some (.ref p), v7, v8, v9] ∧ LInv C H' hd sa p dk s d n S goal M known)
        ⟨v7, none, rfl, L⟩ ?_ ?_
      · rintro i σ H' hi ⟨v7, v9, rfl, LH, LK, LS, LO, LL, LM, LN⟩
        refine ⟨_, rfl, hd, sa, 2, rfl, LH, by decide, by decide, fun H1 z z0 z1 HA1 K1 => ⟨rfl, ?_⟩⟩
        have SA1 := LS.hand K1 LH.lst
        have KA1 := LK.hand K1 HA1.lst
        refine ⟨_, rfl, _, rfl, _, rfl, _, rfl, hd, sa, s, d, n, S, goal, M, decide (V.int z = V.int 1), rfl, HA1, SA1, LO, LM, fun H2 pa a0 a1 D0 D1 HA2 K2 ea h0 h1 PO => ?_⟩
        have SA2 := SA1.hand K2 HA1.lst
        have KA2 := KA1.hand K2 HA2.lst
        refine ⟨_, rfl, hd, p, dk, pa, a0, a1, n, S, goal, M, known, _, D0, D1, rfl, KA2, LO, LL, ea, h0, h1, PO, fun H3 KA3 K3 => ⟨_, rfl, ?_⟩⟩
        refine iteF ?_
        have kl := K3.lists KA2.objs.1 KA2.objs.2
        exact ⟨_, _, rfl, HA2.lists kl, KA3, SA2.deed K3 KA2.objs.1 KA2.objs.2 LN, LO, LL, LM, LN⟩
      · rintro σ H' ⟨v7, v9, rfl, _⟩
        exact k H'
end
end Tr


set_option Elab.async false
set_option linter.all false
set_option maxRecDepth 100000
set_option maxHeartbeats 4000000
/-! all together: what the top has left, the law's def -/
namespace Tr
open PySem PySem.Spec PyProof.Rows L2
section
variable {K : PySem.W.Frag} {h : Heap} {mg : Str → Option Value}
theorem dfn_mk (X : K.In h) (G : h.Ns mainGlobals mg) {x : Str} {st : Stmt} {f : Addr} {oc : Value} {od an : Option Addr} {sl : Array (Option Value)} {kV dc pm cd ct : Value} (a : PySem.W.nsIn K mainGlobals x = some (some (.ref f)))
    (l : K.lookup f = some ⟨oc, od, .func (PySem.W.fnOf x x (defArgs st) (defBody st) (defScope st) .none kV dc pm an cd ct), sl⟩) (c : PySem.W.codeIn K cd x = true) (k : PySem.W.keepIn K (.ref f) = true) : Dfn K mg x st := ⟨f, _, fun_mk l c k, PySem.W.mg_of X G a⟩
theorem dfnA_mk (X : K.In h) (G : h.Ns mainGlobals mg) {x y : Str} {st : Stmt} {f : Addr} {oc : Value} {od an : Option Addr} {sl : Array (Option Value)} {kV dc pm cd ct : Value} (a : PySem.W.nsIn K mainGlobals y = some (some (.ref f)))
    (l : K.lookup f = some ⟨oc, od, .func (PySem.W.fnOf x x (defArgs st) (defBody st) (defScope st) .none kV dc pm an cd ct), sl⟩) (c : PySem.W.codeIn K cd x = true) (k : PySem.W.keepIn K (.ref f) = true) : ∃ (f : Addr) (fd : FuncData), Fun K x x st f fd ∧ mg y = some (.ref f) := ⟨f, _, fun_mk l c k, PySem.W.mg_of X G a⟩
theorem dfnM_mk {C : Addr} {x q : Str} {st : Stmt} {f : Addr} {oc : Value} {od an : Option Addr} {sl : Array (Option Value)} {kV dc pm cd ct : Value} (a : PySem.W.findIn K (.ref C) x = some (some (.ref f))) (i : PySem.W.isFn K (.ref f) = true)
    (l : K.lookup f = some ⟨oc, od, .func (PySem.W.fnOf x q (defArgs st) (defBody st) (defScope st) .none kV dc pm an cd ct), sl⟩) (c : PySem.W.codeIn K cd q = true) (k : PySem.W.keepIn K (.ref f) = true) : DfnM K C x q st := ⟨f, _, fun_mk l c k, ⟨a, i, k⟩⟩
theorem dfnI_mk (X : K.In h) (G : h.Ns mainGlobals mg) {C : Addr} {y q : Str} {st : Stmt} {f : Addr} {oc : Value} {od an : Option Addr} {sl : Array (Option Value)} {kV dc pm cd ct : Value} (aC : PySem.W.nsIn K mainGlobals y = some (some (.ref C))) (mk : PySem.W.makesIn K C = true) (kc : PySem.W.keepIn K (.ref C) = true)
    (a : PySem.W.findIn K (.ref C) "__init__" = some (some (.ref f))) (i : PySem.W.isFn K (.ref f) = true)
    (l : K.lookup f = some ⟨oc, od, .func (PySem.W.fnOf "__init__" q (defArgs st) (defBody st) (defScope st) .none kV dc pm an cd ct), sl⟩) (c : PySem.W.codeIn K cd q = true) (k : PySem.W.keepIn K (.ref f) = true) : DfnI K mg C y q st := ⟨f, _, fun_mk l c k, ⟨mk, a, i, kc⟩, PySem.W.mg_of X G aC⟩
end
theorem all_mk {l : PySem.W.OpenLaw} {w : World} {K : PySem.W.Frag} {h : Heap} {mg : Str → Option Value} {fa CP CH CK : Addr} (X : K.In h) (G : h.Ns mainGlobals mg) (hfa : mg "law" = some (.ref fa))
    (T : Blt mg) (GG : Glb mg) (TP : TxtP K CP) (TH : TxtH K CH) (TK : TxtK K CK)
    (d_whole : Dfn K mg "is_whole" sWhole) (d_joined : Dfn K mg "joined" sJoined) (d_effect : Dfn K mg "effect_of" sEffect) (d_stepped : Dfn K mg "stepped" sStepped) (d_levels : Dfn K mg "levels_along" sLevels)
    (d_PI : DfnI K mg CP "Passes" "Passes.__init__" sPI) (d_go : DfnM K CP "go" "Passes.go" sGo) (d_last : DfnM K CP "last" "Passes.last" sLast) (d_risen : DfnM K CP "risen" "Passes.risen" sRisen) (d_walk : DfnM K CP "walk_to" "Passes.walk_to" sWalk)
    (d_changes : Dfn K mg "changes_of" sChanges) (d_places : Dfn K mg "places_along" sPlaces) (d_twice : Dfn K mg "twice" sTwice) (d_parts : Dfn K mg "as_parts" sParts) (d_filled : Dfn K mg "filled" sFilled)
    (d_HI : DfnI K mg CH "Heights" "Heights.__init__" sHI) (d_table : DfnM K CH "table" "Heights.table" sTable) (d_highest : ∃ (f : Addr) (fd : FuncData), Fun K "highest" "highest" sHighest f fd ∧ mg "highest_highest" = some (.ref f)) (d_turned : Dfn K mg "turned_land" sTurned) (d_fromFull : Dfn K mg "from_full" sFromFull)
    (d_least : ∃ (f : Addr) (fd : FuncData), Fun K "least" "least" sLeast f fd ∧ mg "least_least" = some (.ref f)) (d_level : Dfn K mg "is_level" sLevel) (d_isTable : Dfn K mg "is_table" sIsTable) (d_isLabel : Dfn K mg "is_label" sIsLabel) (d_isChange : Dfn K mg "is_change" sIsChange) (d_isLess : Dfn K mg "is_less" sIsLess)
    (d_KI : DfnI K mg CK "Keeper" "Keeper.__init__" sKI) (d_isPlace : DfnM K CK "is_place" "Keeper.is_place" sIsPlace) (d_told : DfnM K CK "told" "Keeper.told" sTold) (d_check : DfnM K CK "check_in" "Keeper.check_in" sCheck) (d_lay : DfnM K CK "lay" "Keeper.lay" sLay) (d_lift : DfnM K CK "lift" "Keeper.lift" sLift)
    (d_turn : DfnM K CK "turn" "Keeper.turn" sTurn) (d_refill : DfnM K CK "refill" "Keeper.refill" sRefill) (d_aim : DfnM K CK "aim" "Keeper.aim" sAim) (d_land : DfnM K CK "land" "Keeper.land" sLand) (d_kLeast : DfnM K CK "least" "Keeper.least" sKLeast)
    (d_hand : Dfn K mg "_law_hand" sHand) (d_next : Dfn K mg "_law_next" sNext) (d_take : Dfn K mg "_law_take" sTake) (d_draw : Dfn K mg "_law_draw" sDraw) (d_scale : Dfn K mg "_law_scale" sScale) (d_change : Dfn K mg "_law_change" sChange) (d_store : Dfn K mg "_law_store" sStore) (d_tab : Dfn K mg "_law_table" sTab)
    (d_lLess : Dfn K mg "_law_less" sLLess) (d_moved : Dfn K mg "_law_moved" sMoved) (d_state : Dfn K mg "_law_state" sState) (d_deed : Dfn K mg "_law_deed" sDeed) (d_after : Dfn K mg "_law_after" sAfter) (d_do : Dfn K mg "_law_do" sDo) (d_pair : Dfn K mg "_law_pair" sPair) (d_right : Dfn K mg "_law_right" sRight)
    {f : Addr} {oc : Value} {od an : Option Addr} {sl : Array (Option Value)} {kV dc pm cd ct : Value} (a0 : PySem.W.nsIn K mainGlobals "law" = some (some (.ref f)))
    (l0 : K.lookup f = some ⟨oc, od, .func (PySem.W.fnOf "law" "law" (defArgs sLaw) (defBody sLaw) (defScope sLaw) .none kV dc pm an cd ct), sl⟩) (c0 : PySem.W.codeIn K cd "law" = true) (k0 : PySem.W.keepIn K (.ref f) = true) :
    ∃ fd : FuncData, (∀ (s : Shared) (v : Value), BindsTo s fd ⟨[v], []⟩ [("_law_script", v)]) ∧ ∀ base : Heap, K.In base → base.Ns mainGlobals mg → FnOk l.prog w K mg base CX0 13 fa fd ["_law_script"] (spLaw K) := by
  have e := hfa.symm.trans (PySem.W.mg_of X G a0)
  cases e
  refine ⟨PySem.W.fnOf "law" "law" (defArgs sLaw) (defBody sLaw) (defScope sLaw) .none kV dc pm an cd ct, fun s v => .of_eq rfl, fun base _ _ => ?_⟩
  have c_whole := cal_whole (P := l.prog) (w := w) (base := base) T d_whole
  have c_joined := cal_joined (P := l.prog) (w := w) (base := base) T d_joined
  have c_effect := cal_effect (P := l.prog) (w := w) (base := base) T c_joined d_effect
  have c_stepped := cal_stepped (P := l.prog) (w := w) (base := base) T d_stepped
  have c_levels := cal_levels c_stepped d_levels
  have c_go := cal_go T TP c_stepped d_go
  have c_PI := cal_PI T TP c_go d_PI
  have c_last := cal_last (P := l.prog) (w := w) (base := base) T TP d_last
  have c_risen := cal_risen (P := l.prog) (w := w) (base := base) T TP d_risen
  have c_walk := cal_walk (P := l.prog) (w := w) (base := base) T TP d_walk
  have c_changes := cal_changes (P := l.prog) (w := w) (base := base) d_changes
  have c_places := cal_places (P := l.prog) (w := w) (base := base) d_places
  have c_twice := cal_twice (P := l.prog) (w := w) (base := base) T d_twice
  have c_parts := cal_parts (P := l.prog) (w := w) (base := base) T d_parts
  have c_filled := cal_filled c_levels c_effect c_changes c_places c_twice c_parts d_filled
  have c_HI := cal_HI T TP TH c_PI c_risen c_walk c_filled d_HI
  have c_table := cal_table TP TH c_last d_table
  have c_highest := cal_highest "highest_highest" c_HI TH c_table d_highest
  have c_turned := cal_turned (P := l.prog) (w := w) (base := base) d_turned
  have c_fromFull := cal_fromFull (P := l.prog) (w := w) (base := base) d_fromFull
  have c_least := cal_least "least_least" c_fromFull c_highest c_turned d_least
  have c_level := cal_level c_whole d_level
  have c_isTable := cal_isTable T c_level d_isTable
  have c_isLabel := cal_isLabel GG c_whole d_isLabel
  have c_isChange := cal_isChange GG c_whole d_isChange
  have c_isLess := cal_isLess (P := l.prog) (w := w) (base := base) d_isLess
  have c_land := cal_land (P := l.prog) (w := w) (base := base) T TK d_land
  have c_kLeast := cal_kLeast (P := l.prog) (w := w) (base := base) T TK d_kLeast
  have c_told := cal_told T TK c_least c_isLess c_land d_told
  have c_isPlace := cal_isPlace TK c_whole d_isPlace
  have c_check := cal_check TK c_isLabel d_check
  have c_lay := cal_lay T TK GG c_isLabel c_isChange c_isPlace c_told d_lay
  have c_lift := cal_lift TK c_check c_told d_lift
  have c_turn := cal_turn TK c_isChange c_check c_told d_turn
  have c_refill := cal_refill T TK GG c_whole c_told d_refill
  have c_aim := cal_aim T TK c_isTable c_land c_told d_aim
  have c_KI := cal_KI T TK c_least c_land d_KI
  have c_hand := cal_hand (P := l.prog) (w := w) (base := base) T d_hand
  have c_next := cal_next (P := l.prog) (w := w) (base := base) d_next
  have c_take := cal_take T c_next d_take
  have c_draw := cal_draw c_next c_take d_draw
  have c_scale := cal_scale c_draw d_scale
  have c_change := cal_change c_draw d_change
  have c_store := cal_store T c_draw d_store
  have c_tab := cal_tab T c_draw d_tab
  have c_lLess := cal_lLess (P := l.prog) (w := w) (base := base) d_lLess
  have c_moved := cal_moved T c_lLess d_moved
  have c_state := cal_state (P := l.prog) (w := w) (base := base) T d_state
  have c_deed := cal_deed T c_draw c_change c_tab d_deed
  have c_after := cal_after (P := l.prog) (w := w) (base := base) T d_after
  have c_do := cal_do TK c_lay c_lift c_turn c_refill c_aim d_do
  have c_pair := cal_pair T c_draw c_change d_pair
  have c_right := cal_right T TK c_do c_moved c_kLeast d_right
  exact ok_law (fun_mk l0 c0 k0) T TK c_hand c_draw c_scale c_store c_state c_tab c_KI c_deed c_after c_do c_right c_pair
theorem walk {l : PySem.W.OpenLaw} {q : Program} {loose : List Str} {XP : (Str → Option Value) → Heap → Prop} {YP : World → Heap → Prop} {d : DefRec} {K : Params → PySem.W.Frag} (hn : l.most = some 63) (hdf : d.params.defaults = [])
    (hY : ∀ (w : World) (h : Heap), YP w h → (K w.params).In h)
    (F : ∀ (w : World) (mg : Str → Option Value) (fa : Addr) (h : Heap), (K w.params).In h → h.Ns mainGlobals mg → mg d.name = some (.ref fa) →
      ∃ fd : FuncData, (∀ (s : Shared) (u : Value), BindsTo s fd ⟨[u], []⟩ [("_law_script", u)]) ∧ ∀ base : Heap, (K w.params).In base → base.Ns mainGlobals mg → FnOk l.prog w (K w.params) mg base CX0 13 fa fd ["_law_script"] (spLaw (K w.params))) :
    PySem.W.WalkO q loose XP YP l.row.toRowW d [] (fun f vs => PySem.call f vs) :=
  L2.walk_of (n := 63) (k := 13) (x := "_law_script") (CX := fun _ => CX0) (sp := fun w => spLaw (K w.params)) hn (by decide) hdf ⟨rfl, by decide, by decide⟩ hY F (fun _ _ a ns hl _ hS => ⟨a, ns, rfl, hS, hl, fun _ => rfl⟩) fun _ _ _ _ _ z => z
end Tr


set_option Elab.async false
set_option maxRecDepth 100000
theorem Tr.na_mk {K : PySem.W.Frag} {C : PySem.Addr} {f : PySem.Str} (e : PySem.W.findIn K (.ref C) f = some none) : L2.NoAttr K C f := e
theorem Tr.glb_mk {K : PySem.W.Frag} {h : PySem.Heap} {mg : PySem.Str → Option PySem.Value} {x : PySem.Str} {n : Int} {t : PySem.Tok} (X : K.In h) (G : h.Ns PySem.mainGlobals mg) (e : PySem.W.nsIn K PySem.mainGlobals x = some (some (.int n t))) : ∃ t, mg x = some (.int n t) := ⟨t, PySem.W.mg_of X G e⟩
open PySem PySem.W PyProof.Rows
set_option maxRecDepth 100000 in
set_option maxHeartbeats 0 in
theorem PySem.Challenge.cw_trudge_k93_whole_none_rises_none_falls_holds : PySem.Challenge.rw_trudge_k93_whole_none_rises_none_falls.Holds := by
  w_on; o_law; k_head; (case hw => w_witness2)
  k_fill
  refine Tr.walk (l := PySem.Challenge.rw_trudge_k93_whole_none_rises_none_falls) rfl rfl (fun w h Y => PySem.W.kIn_of Y) ?F
  case F =>
    intro w mg fa h KX G hmg
    refine' Tr.all_mk KX G hmg ⟨PySem.W.mg_none_of KX G ?z_min, PySem.W.mg_none_of KX G ?z_max, PySem.W.mg_none_of KX G ?z_len, PySem.W.mg_none_of KX G ?z_list, PySem.W.mg_none_of KX G ?z_range, PySem.W.mg_none_of KX G ?z_enumerate, PySem.W.mg_none_of KX G ?z_isinstance, PySem.W.mg_none_of KX G ?z_abs, PySem.W.mg_none_of KX G ?z_sorted, PySem.W.mg_none_of KX G ?z_dict, PySem.W.mg_none_of KX G ?z_int, PySem.W.mg_none_of KX G ?z_bool, PySem.W.mg_none_of KX G ?z_any, PySem.W.mg_none_of KX G ?z_all⟩ ⟨Tr.glb_mk KX G ?g_ways, Tr.glb_mk KX G ?g_label, Tr.glb_mk KX G ?g_change, Tr.glb_mk KX G ?g_store⟩ ⟨⟨?pgP, ?hdP, ?poP, ?saP⟩, Tr.na_mk ?nP_country, Tr.na_mk ?nP_bound, Tr.na_mk ?nP_tables, Tr.na_mk ?nP_made⟩ ⟨⟨?pgH, ?hdH, ?poH, ?saH⟩, Tr.na_mk ?nH_country, Tr.na_mk ?nH_starts, Tr.na_mk ?nH_origins, Tr.na_mk ?nH_passes⟩ ⟨⟨?pgK, ?hdK, ?poK, ?saK⟩, Tr.na_mk ?nK_places, Tr.na_mk ?nK_held, Tr.na_mk ?nK_wanted, Tr.na_mk ?nK_kept, Tr.na_mk ?nK_known⟩
      (Tr.dfn_mk KX G ?a_whole ?l_whole ?c_whole ?k_whole) (Tr.dfn_mk KX G ?a_joined ?l_joined ?c_joined ?k_joined) (Tr.dfn_mk KX G ?a_effect ?l_effect ?c_effect ?k_effect)
      (Tr.dfn_mk KX G ?a_stepped ?l_stepped ?c_stepped ?k_stepped) (Tr.dfn_mk KX G ?a_levels ?l_levels ?c_levels ?k_levels) (Tr.dfnI_mk KX G ?x_IP ?m_IP ?y_IP ?a_IP ?i_IP ?l_IP ?c_IP ?k_IP)
      (Tr.dfnM_mk ?a_go ?i_go ?l_go ?c_go ?k_go) (Tr.dfnM_mk ?a_last ?i_last ?l_last ?c_last ?k_last) (Tr.dfnM_mk ?a_risen ?i_risen ?l_risen ?c_risen ?k_risen)
      (Tr.dfnM_mk ?a_walk ?i_walk ?l_walk ?c_walk ?k_walk) (Tr.dfn_mk KX G ?a_changes ?l_changes ?c_changes ?k_changes) (Tr.dfn_mk KX G ?a_places ?l_places ?c_places ?k_places)
      (Tr.dfn_mk KX G ?a_twice ?l_twice ?c_twice ?k_twice) (Tr.dfn_mk KX G ?a_parts ?l_parts ?c_parts ?k_parts) (Tr.dfn_mk KX G ?a_filled ?l_filled ?c_filled ?k_filled)
      (Tr.dfnI_mk KX G ?x_IH ?m_IH ?y_IH ?a_IH ?i_IH ?l_IH ?c_IH ?k_IH) (Tr.dfnM_mk ?a_table ?i_table ?l_table ?c_table ?k_table) (Tr.dfnA_mk KX G ?a_highest ?l_highest ?c_highest ?k_highest)
      (Tr.dfn_mk KX G ?a_turned ?l_turned ?c_turned ?k_turned) (Tr.dfn_mk KX G ?a_fromFull ?l_fromFull ?c_fromFull ?k_fromFull) (Tr.dfnA_mk KX G ?a_least ?l_least ?c_least ?k_least)
      (Tr.dfn_mk KX G ?a_level ?l_level ?c_level ?k_level) (Tr.dfn_mk KX G ?a_isTable ?l_isTable ?c_isTable ?k_isTable) (Tr.dfn_mk KX G ?a_isLabel ?l_isLabel ?c_isLabel ?k_isLabel)
      (Tr.dfn_mk KX G ?a_isChange ?l_isChange ?c_isChange ?k_isChange) (Tr.dfn_mk KX G ?a_isLess ?l_isLess ?c_isLess ?k_isLess) (Tr.dfnI_mk KX G ?x_IK ?m_IK ?y_IK ?a_IK ?i_IK ?l_IK ?c_IK ?k_IK)
      (Tr.dfnM_mk ?a_isPlace ?i_isPlace ?l_isPlace ?c_isPlace ?k_isPlace) (Tr.dfnM_mk ?a_told ?i_told ?l_told ?c_told ?k_told) (Tr.dfnM_mk ?a_check ?i_check ?l_check ?c_check ?k_check)
      (Tr.dfnM_mk ?a_lay ?i_lay ?l_lay ?c_lay ?k_lay) (Tr.dfnM_mk ?a_lift ?i_lift ?l_lift ?c_lift ?k_lift) (Tr.dfnM_mk ?a_turn ?i_turn ?l_turn ?c_turn ?k_turn)
      (Tr.dfnM_mk ?a_refill ?i_refill ?l_refill ?c_refill ?k_refill) (Tr.dfnM_mk ?a_aim ?i_aim ?l_aim ?c_aim ?k_aim) (Tr.dfnM_mk ?a_land ?i_land ?l_land ?c_land ?k_land)
      (Tr.dfnM_mk ?a_kLeast ?i_kLeast ?l_kLeast ?c_kLeast ?k_kLeast) (Tr.dfn_mk KX G ?a_hand ?l_hand ?c_hand ?k_hand) (Tr.dfn_mk KX G ?a_next ?l_next ?c_next ?k_next)
      (Tr.dfn_mk KX G ?a_take ?l_take ?c_take ?k_take) (Tr.dfn_mk KX G ?a_draw ?l_draw ?c_draw ?k_draw) (Tr.dfn_mk KX G ?a_scale ?l_scale ?c_scale ?k_scale)
      (Tr.dfn_mk KX G ?a_change ?l_change ?c_change ?k_change) (Tr.dfn_mk KX G ?a_store ?l_store ?c_store ?k_store) (Tr.dfn_mk KX G ?a_tab ?l_tab ?c_tab ?k_tab)
      (Tr.dfn_mk KX G ?a_lLess ?l_lLess ?c_lLess ?k_lLess) (Tr.dfn_mk KX G ?a_moved ?l_moved ?c_moved ?k_moved) (Tr.dfn_mk KX G ?a_state ?l_state ?c_state ?k_state)
      (Tr.dfn_mk KX G ?a_deed ?l_deed ?c_deed ?k_deed) (Tr.dfn_mk KX G ?a_after ?l_after ?c_after ?k_after) (Tr.dfn_mk KX G ?a_do ?l_do ?c_do ?k_do)
      (Tr.dfn_mk KX G ?a_pair ?l_pair ?c_pair ?k_pair) (Tr.dfn_mk KX G ?a_right ?l_right ?c_right ?k_right)
      ?a_0 ?l_0 ?c_0 ?k_0
    (case x_IP => k_is)
    (case x_IH => k_is)
    (case x_IK => k_is)
    (case a_whole => k_is)
    (case l_whole => k_is)
    (case c_whole => k_is)
    (case k_whole => k_is)
    (case a_joined => k_is)
    (case l_joined => k_is)
    (case c_joined => k_is)
    (case k_joined => k_is)
    (case a_effect => k_is)
    (case l_effect => k_is)
    (case c_effect => k_is)
    (case k_effect => k_is)
    (case a_stepped => k_is)
    (case l_stepped => k_is)
    (case c_stepped => k_is)
    (case k_stepped => k_is)
    (case a_levels => k_is)
    (case l_levels => k_is)
    (case c_levels => k_is)
    (case k_levels => k_is)
    (case m_IP => k_is)
    (case y_IP => k_is)
    (case a_IP => k_is)
    (case i_IP => k_is)
    (case l_IP => k_is)
    (case c_IP => k_is)
    (case k_IP => k_is)
    (case a_go => k_is)
    (case i_go => k_is)
    (case l_go => k_is)
    (case c_go => k_is)
    (case k_go => k_is)
    (case a_last => k_is)
    (case i_last => k_is)
    (case l_last => k_is)
    (case c_last => k_is)
    (case k_last => k_is)
    (case a_risen => k_is)
    (case i_risen => k_is)
    (case l_risen => k_is)
    (case c_risen => k_is)
    (case k_risen => k_is)
    (case a_walk => k_is)
    (case i_walk => k_is)
    (case l_walk => k_is)
    (case c_walk => k_is)
    (case k_walk => k_is)
    (case a_changes => k_is)
    (case l_changes => k_is)
    (case c_changes => k_is)
    (case k_changes => k_is)
    (case a_places => k_is)
    (case l_places => k_is)
    (case c_places => k_is)
    (case k_places => k_is)
    (case a_twice => k_is)
    (case l_twice => k_is)
    (case c_twice => k_is)
    (case k_twice => k_is)
    (case a_parts => k_is)
    (case l_parts => k_is)
    (case c_parts => k_is)
    (case k_parts => k_is)
    (case a_filled => k_is)
    (case l_filled => k_is)
    (case c_filled => k_is)
    (case k_filled => k_is)
    (case m_IH => k_is)
    (case y_IH => k_is)
    (case a_IH => k_is)
    (case i_IH => k_is)
    (case l_IH => k_is)
    (case c_IH => k_is)
    (case k_IH => k_is)
    (case a_table => k_is)
    (case i_table => k_is)
    (case l_table => k_is)
    (case c_table => k_is)
    (case k_table => k_is)
    (case a_highest => k_is)
    (case l_highest => k_is)
    (case c_highest => k_is)
    (case k_highest => k_is)
    (case a_turned => k_is)
    (case l_turned => k_is)
    (case c_turned => k_is)
    (case k_turned => k_is)
    (case a_fromFull => k_is)
    (case l_fromFull => k_is)
    (case c_fromFull => k_is)
    (case k_fromFull => k_is)
    (case a_least => k_is)
    (case l_least => k_is)
    (case c_least => k_is)
    (case k_least => k_is)
    (case a_level => k_is)
    (case l_level => k_is)
    (case c_level => k_is)
    (case k_level => k_is)
    (case a_isTable => k_is)
    (case l_isTable => k_is)
    (case c_isTable => k_is)
    (case k_isTable => k_is)
    (case a_isLabel => k_is)
    (case l_isLabel => k_is)
    (case c_isLabel => k_is)
    (case k_isLabel => k_is)
    (case a_isChange => k_is)
    (case l_isChange => k_is)
    (case c_isChange => k_is)
    (case k_isChange => k_is)
    (case a_isLess => k_is)
    (case l_isLess => k_is)
    (case c_isLess => k_is)
    (case k_isLess => k_is)
    (case m_IK => k_is)
    (case y_IK => k_is)
    (case a_IK => k_is)
    (case i_IK => k_is)
    (case l_IK => k_is)
    (case c_IK => k_is)
    (case k_IK => k_is)
    (case a_isPlace => k_is)
    (case i_isPlace => k_is)
    (case l_isPlace => k_is)
    (case c_isPlace => k_is)
    (case k_isPlace => k_is)
    (case a_told => k_is)
    (case i_told => k_is)
    (case l_told => k_is)
    (case c_told => k_is)
    (case k_told => k_is)
    (case a_check => k_is)
    (case i_check => k_is)
    (case l_check => k_is)
    (case c_check => k_is)
    (case k_check => k_is)
    (case a_lay => k_is)
    (case i_lay => k_is)
    (case l_lay => k_is)
    (case c_lay => k_is)
    (case k_lay => k_is)
    (case a_lift => k_is)
    (case i_lift => k_is)
    (case l_lift => k_is)
    (case c_lift => k_is)
    (case k_lift => k_is)
    (case a_turn => k_is)
    (case i_turn => k_is)
    (case l_turn => k_is)
    (case c_turn => k_is)
    (case k_turn => k_is)
    (case a_refill => k_is)
    (case i_refill => k_is)
    (case l_refill => k_is)
    (case c_refill => k_is)
    (case k_refill => k_is)
    (case a_aim => k_is)
    (case i_aim => k_is)
    (case l_aim => k_is)
    (case c_aim => k_is)
    (case k_aim => k_is)
    (case a_land => k_is)
    (case i_land => k_is)
    (case l_land => k_is)
    (case c_land => k_is)
    (case k_land => k_is)
    (case a_kLeast => k_is)
    (case i_kLeast => k_is)
    (case l_kLeast => k_is)
    (case c_kLeast => k_is)
    (case k_kLeast => k_is)
    (case a_hand => k_is)
    (case l_hand => k_is)
    (case c_hand => k_is)
    (case k_hand => k_is)
    (case a_next => k_is)
    (case l_next => k_is)
    (case c_next => k_is)
    (case k_next => k_is)
    (case a_take => k_is)
    (case l_take => k_is)
    (case c_take => k_is)
    (case k_take => k_is)
    (case a_draw => k_is)
    (case l_draw => k_is)
    (case c_draw => k_is)
    (case k_draw => k_is)
    (case a_scale => k_is)
    (case l_scale => k_is)
    (case c_scale => k_is)
    (case k_scale => k_is)
    (case a_change => k_is)
    (case l_change => k_is)
    (case c_change => k_is)
    (case k_change => k_is)
    (case a_store => k_is)
    (case l_store => k_is)
    (case c_store => k_is)
    (case k_store => k_is)
    (case a_tab => k_is)
    (case l_tab => k_is)
    (case c_tab => k_is)
    (case k_tab => k_is)
    (case a_lLess => k_is)
    (case l_lLess => k_is)
    (case c_lLess => k_is)
    (case k_lLess => k_is)
    (case a_moved => k_is)
    (case l_moved => k_is)
    (case c_moved => k_is)
    (case k_moved => k_is)
    (case a_state => k_is)
    (case l_state => k_is)
    (case c_state => k_is)
    (case k_state => k_is)
    (case a_deed => k_is)
    (case l_deed => k_is)
    (case c_deed => k_is)
    (case k_deed => k_is)
    (case a_after => k_is)
    (case l_after => k_is)
    (case c_after => k_is)
    (case k_after => k_is)
    (case a_do => k_is)
    (case l_do => k_is)
    (case c_do => k_is)
    (case k_do => k_is)
    (case a_pair => k_is)
    (case l_pair => k_is)
    (case c_pair => k_is)
    (case k_pair => k_is)
    (case a_right => k_is)
    (case l_right => k_is)
    (case c_right => k_is)
    (case k_right => k_is)
    (case a_0 => k_is)
    (case l_0 => k_is)
    (case c_0 => k_is)
    (case k_0 => k_is)
    (case z_min => k_is)
    (case z_max => k_is)
    (case z_len => k_is)
    (case z_list => k_is)
    (case z_range => k_is)
    (case z_enumerate => k_is)
    (case z_isinstance => k_is)
    (case z_abs => k_is)
    (case z_sorted => k_is)
    (case z_dict => k_is)
    (case z_int => k_is)
    (case z_bool => k_is)
    (case z_any => k_is)
    (case z_all => k_is)
    (case g_ways => k_is)
    (case g_label => k_is)
    (case g_change => k_is)
    (case g_store => k_is)
    (case pgP => k_is)
    (case hdP => k_is)
    (case poP => k_is)
    (case saP => k_is)
    (case nP_country => k_is)
    (case nP_bound => k_is)
    (case nP_tables => k_is)
    (case nP_made => k_is)
    (case pgH => k_is)
    (case hdH => k_is)
    (case poH => k_is)
    (case saH => k_is)
    (case nH_country => k_is)
    (case nH_starts => k_is)
    (case nH_origins => k_is)
    (case nH_passes => k_is)
    (case pgK => k_is)
    (case hdK => k_is)
    (case poK => k_is)
    (case saK => k_is)
    (case nK_places => k_is)
    (case nK_held => k_is)
    (case nK_wanted => k_is)
    (case nK_kept => k_is)
    (case nK_known => k_is)
