import PyProof.Rows.All
import Wide.All
import OpenK.AllK
import Wide.FinOn
import HandS.ForMost
import HandS.EndTab
import HandS.Nested
import HandS.Deep
import HandS.TupLen
import HandS.TupAny
import KE.KDictDisplayH
import KE.KDictSum
import KE.GoesMore
import HandS.Walk
import HandS.IsInst
import HandS.CallLocal
import HandS.Sort
import HandS.Style
import HandS.Flow
import HandS.Conv
import PySem.Challenge.RW_levellers_k29_whole_rows_and_rings
set_option Elab.async false
set_option linter.all false
set_option maxRecDepth 100000
set_option maxHeartbeats 4000000
/-! Mathematics of heights: no program in sight. -/
namespace LvM
/-- a height of a list -/
abbrev at_ (h : List Int) (k : Nat) : Int := h.getD k 0
theorem at_set (h : List Int) (p k : Nat) (v : Int) (hp : p < h.length) : at_ (h.set p v) k = if k = p then v else at_ h k := by
  unfold at_
  rw [List.getD_eq_getElem?_getD, List.getD_eq_getElem?_getD]
  by_cases e : k = p
  · subst e
    rw [if_pos rfl, List.getElem?_set_self hp]
    rfl
  · rw [if_neg e, List.getElem?_set_ne (fun q => e q.symm)]
/-- sums of all differences -/
def dist : List Int → List Int → Nat
  | a :: as, b :: bs => (a - b).natAbs + dist as bs
  | _, _ => 0
theorem dist_self : ∀ l : List Int, dist l l = 0
  | [] => rfl
  | a :: l => by
    show (a - a).natAbs + dist l l = 0
    rw [dist_self l]
    omega
theorem dist_set : ∀ (one h : List Int) (p : Nat) (v : Int), one.length = h.length → p < h.length →
    dist one (h.set p v) + (at_ one p - at_ h p).natAbs = dist one h + (at_ one p - v).natAbs
  | [], [], _, _, _, hp => by simp at hp
  | [], _ :: _, _, _, e, _ => by simp at e
  | _ :: _, [], _, _, e, _ => by simp at e
  | a :: as, b :: bs, 0, v, _, _ => by
    show ((a - v).natAbs + dist as bs) + (a - b).natAbs = ((a - b).natAbs + dist as bs) + (a - v).natAbs
    omega
  | a :: as, b :: bs, p + 1, v, e, hp => by
    have ih := dist_set as bs p v (by simpa using e) (by simpa using hp)
    show ((a - b).natAbs + dist as (bs.set p v)) + (at_ as p - at_ bs p).natAbs = ((a - b).natAbs + dist as bs) + (at_ as p - v).natAbs
    omega
theorem dist_pos : ∀ (one h : List Int), one.length = h.length → dist one h ≠ 0 → ∃ k, k < h.length ∧ at_ one k ≠ at_ h k
  | [], [], _, hp => absurd rfl hp
  | [], _ :: _, e, _ => by simp at e
  | _ :: _, [], e, _ => by simp at e
  | a :: as, b :: bs, e, hp => by
    by_cases q : a = b
    · have h2 : dist as bs ≠ 0 := fun z => hp (by
        show (a - b).natAbs + dist as bs = 0
        rw [z, q]
        omega)
      obtain ⟨k, h3, h4⟩ := dist_pos as bs (by simpa using e) h2
      exact ⟨k + 1, by simpa using h3, h4⟩
    · exact ⟨0, by simp, q⟩
theorem dist_le (m : Nat) : ∀ (one h : List Int), (∀ x ∈ one, 0 ≤ x ∧ x ≤ (m : Int)) → (∀ x ∈ h, 0 ≤ x ∧ x ≤ (m : Int)) → dist one h ≤ one.length * m
  | [], _, _, _ => by simp [dist]
  | _ :: _, [], _, _ => by simp [dist]
  | a :: as, b :: bs, h1, h2 => by
    have ih := dist_le m as bs (fun x hx => h1 x (List.mem_cons_of_mem _ hx)) (fun x hx => h2 x (List.mem_cons_of_mem _ hx))
    have ha := h1 a List.mem_cons_self
    have hb := h2 b List.mem_cons_self
    show (a - b).natAbs + dist as bs ≤ (as.length + 1) * m
    rw [Nat.add_mul]
    omega

/-- whether two neighbours may come to heights from others -/
def fitsB (low high fl fh : Int) : Bool :=
  if high - low > 1 then decide (fl ≤ low) && decide (high ≤ fh) else if low - high > 1 then decide (fh ≤ high) && decide (low ≤ fl) else true
theorem fitsB_iff (low high fl fh : Int) : fitsB low high fl fh = true ↔ (high - low > 1 → fl ≤ low ∧ high ≤ fh) ∧ (low - high > 1 → fh ≤ high ∧ low ≤ fl) := by
  unfold fitsB
  by_cases h1 : high - low > 1
  · rw [if_pos h1]
    simp only [Bool.and_eq_true, decide_eq_true_eq]
    constructor
    · intro h
      exact ⟨fun _ => h, fun z => by omega⟩
    · intro h
      exact h.1 h1
  · rw [if_neg h1]
    by_cases h2 : low - high > 1
    · rw [if_pos h2]
      simp only [Bool.and_eq_true, decide_eq_true_eq]
      constructor
      · intro h
        exact ⟨fun z => absurd z h1, fun _ => h⟩
      · intro h
        exact h.2 h2
    · rw [if_neg h2]
      exact ⟨fun _ => ⟨fun z => absurd z h1, fun z => absurd z h2⟩, fun _ => rfl⟩
abbrev Ed := List (Nat × Nat)
def comesB (E : Ed) (one h : List Int) : Bool := E.all fun e => fitsB (at_ h e.1) (at_ h e.2) (at_ one e.1) (at_ one e.2)
def adj (E : Ed) (a b : Nat) : Prop := (a, b) ∈ E ∨ (b, a) ∈ E
theorem adj_symm {E : Ed} {a b : Nat} (h : adj E a b) : adj E b a := h.elim .inr .inl
/-- the same, by low and high ends -/
def Comes (E : Ed) (one h : List Int) : Prop := ∀ a b, adj E a b → at_ h b - at_ h a > 1 → at_ one a ≤ at_ h a ∧ at_ h b ≤ at_ one b
theorem comes_iff (E : Ed) (one h : List Int) : comesB E one h = true ↔ Comes E one h := by
  unfold comesB
  rw [List.all_eq_true]
  constructor
  · intro q a b hab hs
    rcases hab with e | e
    · exact ((fitsB_iff _ _ _ _).mp (q _ e)).1 hs
    · exact ((fitsB_iff _ _ _ _).mp (q _ e)).2 hs
  · intro q e he
    exact (fitsB_iff _ _ _ _).mpr ⟨fun z => q e.1 e.2 (.inl he) z, fun z => q e.2 e.1 (.inr he) z⟩
theorem comes_self (E : Ed) (one : List Int) : Comes E one one := fun _ _ _ _ => ⟨Int.le_refl _, Int.le_refl _⟩
/-- a deed -/
def Raise (E : Ed) (roof : Int) (h : List Int) (p : Nat) : Prop := p < h.length ∧ at_ h p < roof ∧ ∀ q, adj E q p → at_ h p ≤ at_ h q
def Lower (E : Ed) (h : List Int) (p : Nat) : Prop := p < h.length ∧ 0 < at_ h p ∧ ∀ q, adj E q p → at_ h q ≤ at_ h p
inductive Deed (E : Ed) (roof : Int) (h : List Int) : List Int → Prop
  | up (p : Nat) (r : Raise E roof h p) : Deed E roof h (h.set p (at_ h p + 1))
  | down (p : Nat) (r : Lower E h p) : Deed E roof h (h.set p (at_ h p - 1))
theorem deed_comes {E : Ed} {roof : Int} {one x y : List Int} (c : Comes E one x) (d : Deed E roof x y) : Comes E one y := by
  cases d with
  | up p r =>
    obtain ⟨hp, _, hn⟩ := r
    intro a b hab hs
    rw [at_set _ _ _ _ hp, at_set _ _ _ _ hp] at hs
    rw [at_set _ _ _ _ hp, at_set _ _ _ _ hp]
    by_cases ea : a = p
    · by_cases eb : b = p
      · rw [if_pos ea, if_pos eb] at hs
        omega
      · rw [if_pos ea, if_neg eb] at hs
        rw [if_pos ea, if_neg eb]
        have q := c a b hab (by rw [ea]; omega)
        rw [ea] at q
        rw [ea]
        omega
    · by_cases eb : b = p
      · rw [if_neg ea, if_pos eb] at hs
        have q := hn a (by rw [← eb]; exact hab)
        omega
      · rw [if_neg ea, if_neg eb] at hs
        rw [if_neg ea, if_neg eb]
        exact c a b hab hs
  | down p r =>
    obtain ⟨hp, _, hn⟩ := r
    intro a b hab hs
    rw [at_set _ _ _ _ hp, at_set _ _ _ _ hp] at hs
    rw [at_set _ _ _ _ hp, at_set _ _ _ _ hp]
    by_cases ea : a = p
    · by_cases eb : b = p
      · rw [if_pos ea, if_pos eb] at hs
        omega
      · rw [if_pos ea, if_neg eb] at hs
        have q := hn b (adj_symm (by rw [← ea]; exact hab))
        omega
    · by_cases eb : b = p
      · rw [if_neg ea, if_pos eb] at hs
        rw [if_neg ea, if_pos eb]
        have q := c a b hab (by rw [eb]; omega)
        rw [eb] at q
        rw [eb]
        omega
      · rw [if_neg ea, if_neg eb] at hs
        rw [if_neg ea, if_neg eb]
        exact c a b hab hs
theorem deed_length {E : Ed} {roof : Int} {x y : List Int} (d : Deed E roof x y) : y.length = x.length := by
  cases d <;> exact List.length_set
/-- heights of so many places -/
structure Hts (n : Nat) (roof : Int) (h : List Int) : Prop where
  len : h.length = n
  bd : ∀ k, k < n → 0 ≤ at_ h k ∧ at_ h k ≤ roof
theorem Hts.mem {n : Nat} {roof : Int} {h : List Int} (v : Hts n roof h) : ∀ x ∈ h, 0 ≤ x ∧ x ≤ roof := fun x hx => by
  obtain ⟨k, hk, e⟩ := List.mem_iff_getElem.mp hx
  have q := v.bd k (by rw [← v.len]; exact hk)
  have e2 : at_ h k = x := by
    unfold at_
    rw [List.getD_eq_getElem?_getD, List.getElem?_eq_getElem hk, ← e]
    rfl
  rw [e2] at q
  exact q
theorem Hts.of_mem {n : Nat} {roof : Int} {h : List Int} (hl : h.length = n) (q : ∀ x ∈ h, 0 ≤ x ∧ x ≤ roof) : Hts n roof h := ⟨hl, fun k hk => by
  have hk' : k < h.length := by omega
  have e2 : at_ h k = h[k] := by
    unfold at_
    rw [List.getD_eq_getElem?_getD, List.getElem?_eq_getElem hk']
    rfl
  rw [e2]
  exact q _ (List.getElem_mem hk')⟩
theorem deed_hts {E : Ed} {n : Nat} {roof : Int} {x y : List Int} (v : Hts n roof x) (d : Deed E roof x y) : Hts n roof y := by
  refine ⟨(deed_length d).trans v.len, fun k hk => ?_⟩
  have q := v.bd k hk
  cases d with
  | up p r =>
    rw [at_set _ _ _ _ r.1]
    by_cases e : k = p
    · rw [if_pos e]
      rw [e] at q
      have := r.2.1
      omega
    · rw [if_neg e]
      exact q
  | down p r =>
    rw [at_set _ _ _ _ r.1]
    by_cases e : k = p
    · rw [if_pos e]
      rw [e] at q
      have := r.2.1
      omega
    · rw [if_neg e]
      exact q
theorem deed_dist {E : Ed} {roof : Int} {one x y : List Int} (hl : one.length = x.length) (d : Deed E roof x y) : dist one y ≤ dist one x + 1 := by
  cases d with
  | up p r =>
    have q := dist_set one x p (at_ x p + 1) hl r.1
    omega
  | down p r =>
    have q := dist_set one x p (at_ x p - 1) hl r.1
    omega
/-- a greatest one among those below n that have P -/
theorem exists_max (P : Nat → Prop) (f : Nat → Int) : ∀ n, (∃ k, k < n ∧ P k) → ∃ k, k < n ∧ P k ∧ ∀ j, j < n → P j → f j ≤ f k
  | 0, h => by
    obtain ⟨k, hk, _⟩ := h
    omega
  | n + 1, h => by
    by_cases hn : P n
    · by_cases hm : ∃ k, k < n ∧ P k
      · obtain ⟨k, hk, pk, mx⟩ := exists_max P f n hm
        by_cases hf : f k ≤ f n
        · refine ⟨n, by omega, hn, fun j hj pj => ?_⟩
          by_cases e : j = n
          · rw [e]
            omega
          · have := mx j (by omega) pj
            omega
        · refine ⟨k, by omega, pk, fun j hj pj => ?_⟩
          by_cases e : j = n
          · rw [e]
            omega
          · exact mx j (by omega) pj
      · refine ⟨n, by omega, hn, fun j hj pj => ?_⟩
        by_cases e : j = n
        · rw [e]
          omega
        · exact absurd ⟨j, by omega, pj⟩ hm
    · obtain ⟨k, hk, pk⟩ := h
      have hk' : k < n := by
        by_cases e : k = n
        · rw [e] at pk
          exact absurd pk hn
        · omega
      obtain ⟨k2, h2, p2, mx⟩ := exists_max P f n ⟨k, hk', pk⟩
      refine ⟨k2, by omega, p2, fun j hj pj => ?_⟩
      by_cases e : j = n
      · rw [e] at pj
        exact absurd pj hn
      · exact mx j (by omega) pj
/-- all edges are edges of places -/
def EdIn (E : Ed) (n : Nat) : Prop := ∀ e ∈ E, e.1 < n ∧ e.2 < n
theorem adj_lt {E : Ed} {n a b : Nat} (hE : EdIn E n) (h : adj E a b) : a < n ∧ b < n := by
  rcases h with h | h
  · exact hE _ h
  · exact ⟨(hE _ h).2, (hE _ h).1⟩
/-- THE STEP: heights that come have one ahead of them, one deed nearer -/
theorem comes_pred {E : Ed} {n : Nat} {roof : Int} {one h : List Int} (hE : EdIn E n) (v1 : Hts n roof one) (v : Hts n roof h) (c : Comes E one h) (hd : dist one h ≠ 0) :
    ∃ x, Hts n roof x ∧ Comes E one x ∧ dist one x + 1 = dist one h ∧ Deed E roof x h := by
  obtain ⟨k, hk, hne⟩ := dist_pos one h (v1.len.trans v.len.symm) hd
  rw [v.len] at hk
  have back : ∀ (p : Nat) (z : Int), p < n → (h.set p z).set p (at_ h p) = h := fun p z hp => by
    rw [List.set_set]
    have hp' : p < h.length := by rw [v.len]; exact hp
    have e2 : at_ h p = h[p] := by
      unfold at_
      rw [List.getD_eq_getElem?_getD, List.getElem?_eq_getElem hp']
      rfl
    rw [e2, List.set_getElem_self]
  by_cases hU : ∃ k, k < n ∧ at_ one k < at_ h k
  · obtain ⟨p, hp, hlt, mx⟩ := exists_max (fun k => at_ one k < at_ h k) (at_ h) n hU
    have hp' : p < h.length := by rw [v.len]; exact hp
    have b1 := v1.bd p hp
    have b2 := v.bd p hp
    have ln : (h.set p (at_ h p - 1)).length = n := List.length_set.trans v.len
    have low : ∀ q, adj E q p → at_ h p - 1 ≤ at_ h q := fun q hq => by
      by_cases z : at_ h p - at_ h q > 1
      · have := (c q p hq z).2
        omega
      · omega
    refine ⟨h.set p (at_ h p - 1), ⟨ln, fun j hj => ?_⟩, ?_, ?_, ?_⟩
    · rw [at_set _ _ _ _ hp']
      by_cases e : j = p
      · rw [if_pos e]
        omega
      · rw [if_neg e]
        exact v.bd j hj
    · intro a b hab hs
      rw [at_set _ _ _ _ hp', at_set _ _ _ _ hp'] at hs
      rw [at_set _ _ _ _ hp', at_set _ _ _ _ hp']
      by_cases ea : a = p
      · by_cases eb : b = p
        · rw [if_pos ea, if_pos eb] at hs
          omega
        · rw [if_pos ea, if_neg eb] at hs
          rw [if_pos ea, if_neg eb]
          have hb : at_ h b ≤ at_ one b := by
            by_cases z : at_ one b < at_ h b
            · have := mx b (adj_lt hE hab).2 z
              omega
            · omega
          rw [ea]
          omega
      · by_cases eb : b = p
        · rw [if_neg ea, if_pos eb] at hs
          have q := low a (by rw [← eb]; exact hab)
          omega
        · rw [if_neg ea, if_neg eb] at hs
          rw [if_neg ea, if_neg eb]
          exact c a b hab hs
    · have q := dist_set one h p (at_ h p - 1) (v1.len.trans v.len.symm) hp'
      omega
    · have q : Deed E roof (h.set p (at_ h p - 1)) ((h.set p (at_ h p - 1)).set p (at_ (h.set p (at_ h p - 1)) p + 1)) := by
        refine .up p ⟨by rw [ln]; exact hp, ?_, fun j hj => ?_⟩
        · rw [at_set _ _ _ _ hp', if_pos rfl]
          omega
        · rw [at_set _ _ _ _ hp', at_set _ _ _ _ hp', if_pos rfl]
          by_cases e : j = p
          · rw [if_pos e]
            omega
          · rw [if_neg e]
            exact low j hj
      rw [at_set _ _ _ _ hp', if_pos rfl, Int.sub_add_cancel, back p _ hp] at q
      exact q
  · have hD : ∃ k, k < n ∧ at_ h k < at_ one k := ⟨k, hk, by
      have : ¬ at_ one k < at_ h k := fun z => hU ⟨k, hk, z⟩
      omega⟩
    obtain ⟨p, hp, hlt, mx⟩ := exists_max (fun k => at_ h k < at_ one k) (fun k => - at_ h k) n hD
    have hp' : p < h.length := by rw [v.len]; exact hp
    have b1 := v1.bd p hp
    have b2 := v.bd p hp
    have ln : (h.set p (at_ h p + 1)).length = n := List.length_set.trans v.len
    have low : ∀ q, adj E q p → at_ h q ≤ at_ h p + 1 := fun q hq => by
      by_cases z : at_ h q - at_ h p > 1
      · have := (c p q (adj_symm hq) z).1
        omega
      · omega
    refine ⟨h.set p (at_ h p + 1), ⟨ln, fun j hj => ?_⟩, ?_, ?_, ?_⟩
    · rw [at_set _ _ _ _ hp']
      by_cases e : j = p
      · rw [if_pos e]
        omega
      · rw [if_neg e]
        exact v.bd j hj
    · intro a b hab hs
      rw [at_set _ _ _ _ hp', at_set _ _ _ _ hp'] at hs
      rw [at_set _ _ _ _ hp', at_set _ _ _ _ hp']
      by_cases ea : a = p
      · by_cases eb : b = p
        · rw [if_pos ea, if_pos eb] at hs
          omega
        · rw [if_pos ea, if_neg eb] at hs
          have q := low b (adj_symm (by rw [← ea]; exact hab))
          omega
      · by_cases eb : b = p
        · rw [if_neg ea, if_pos eb] at hs
          rw [if_neg ea, if_pos eb]
          have ha : at_ one a ≤ at_ h a := by
            by_cases z : at_ h a < at_ one a
            · have := mx a (adj_lt hE hab).1 z
              omega
            · omega
          rw [eb]
          omega
        · rw [if_neg ea, if_neg eb] at hs
          rw [if_neg ea, if_neg eb]
          exact c a b hab hs
    · have q := dist_set one h p (at_ h p + 1) (v1.len.trans v.len.symm) hp'
      omega
    · have q : Deed E roof (h.set p (at_ h p + 1)) ((h.set p (at_ h p + 1)).set p (at_ (h.set p (at_ h p + 1)) p - 1)) := by
        refine .down p ⟨by rw [ln]; exact hp, ?_, fun j hj => ?_⟩
        · rw [at_set _ _ _ _ hp', if_pos rfl]
          omega
        · rw [at_set _ _ _ _ hp', at_set _ _ _ _ hp', if_pos rfl]
          by_cases e : j = p
          · rw [if_pos e]
            omega
          · rw [if_neg e]
            exact low j hj
      rw [at_set _ _ _ _ hp', if_pos rfl, Int.add_sub_cancel, back p _ hp] at q
      exact q
/-- a deed can always be done -/
theorem deed_ex {E : Ed} {n : Nat} {roof : Int} {h : List Int} (hE : EdIn E n) (v : Hts n roof h) (hn : 0 < n) (hr : 0 < roof) : ∃ y, Deed E roof h y := by
  obtain ⟨p, hp, _, mx⟩ := exists_max (fun _ => True) (fun k => - at_ h k) n ⟨0, hn, trivial⟩
  by_cases hlt : at_ h p < roof
  · exact ⟨_, .up p ⟨by rw [v.len]; exact hp, hlt, fun q hq => by
      have := mx q (adj_lt hE hq).1 trivial
      omega⟩⟩
  · refine ⟨_, .down p ⟨by rw [v.len]; exact hp, by omega, fun q hq => by
      have := (v.bd q (adj_lt hE hq).1).2
      omega⟩⟩
end LvM

/-! Lambdas with parameters and captured cells, handed to a def that calls them. -/
namespace LvL
open PySem PySem.Spec PyProof.Rows L2 LamX NdefX
/-! ### a function value that may be called while cond holds of the abstract heap -/
structure FvOk (P : Program) (w : World) (K : PySem.W.Frag) (mg : Str → Option Value) (base : Heap) (k : Nat) (f : Addr) (cond : Hp → Prop) (sp : Sp) : Prop where
  at_ : ∀ (h : Heap) (H : Hp), K.In h → HOk P w H h → cond H → PySem.W.FnAt f h
  run : ∀ (A : Around) (outer : List Env) (s : Shared) (H : Hp) (us : List Value) (vs : List V) (Q : VK), Room k A → Env0 P w K mg base A outer s H → cond H → Vals vs us → sp vs H Q E0 →
    codeAny (model P w) A (.call (.ref f) ⟨us, []⟩) (CR CX0 outer P w H s Q E0) s
/-- x(..), x a name of the frame that holds it -/
def tCallV (i : Nat) (f : Addr) (cond : Hp → Prop) (sp : Sp) (t : TA) : TE := fun σ H Q => σ[i]? = some (some (.ref f)) ∧ cond H ∧ t σ H fun vs H1 => cond H1 ∧ sp vs H1 Q E0
section
variable {X : Cx} {k i : Nat} {f : Addr} {cond : Hp → Prop} {sp : Sp} {x : Str} {p pos : Pos} {e : Expr} {es : List Expr} {t : TA}
theorem pe_callV (F : FvOk X.prog X.w X.K X.mg X.base k f cond sp) (hr : Room k X.A) (hN : X.N[i]? = some x) (hv : Vis X.env.scope x) (ha : PA X (e :: es) t)
    (hd : (x == ("__debug__" : Str)) = false := by decide) (hcd : (x == ("__classdict__" : Str)) = false := by decide)
    (he : starEach (e :: es) X.env = (false, eval e X.env) :: starEach es X.env := by rfl) (hpl : (backTo pos (starEach es X.env)).any (·.1) = false := by rfl) :
    PE X (.Call (.Name x p) (e :: es) [] pos) (tCallV i f cond sp t) := by
  refine ⟨fun pins s σ H Q I h => ?_⟩
  obtain ⟨hs, hc, ht⟩ := h
  refine wpAny_Call_Name_kw (thn ((pe_var (pos := p) hN hv hd hcd).run pins s σ H (fun v H1 => v = .ref f ∧ H1 = H) I ⟨.ref f, hs, rfl, rfl⟩) fun u s1 ⟨v, H1, I1, r1, q1⟩ => ?_)
  obtain ⟨ev, eH⟩ := q1
  subst ev
  rw [eH] at I1
  obtain rfl : u = Value.ref f := r1
  refine PySem.W.callWith_F (first := []) (F.at_ _ _ I1.kIn I1.hok hc) (thn (ha.run pos pins s1 σ H _ I1 ht) fun us s2 ⟨vs, H2, I2, r, h1, q⟩ => ⟨F.at_ _ _ I2.kIn I2.hok h1, ?_⟩) he hpl
  show wpAny _ _ (call (.ref f) us) _ _ _
  refine wpAny_call (codeAny_mono (F.run X.A X.stack s2 H2 us vs Q hr I2.env0 h1 r q) fun r s' hq => ?_)
  cases r with
  | error e => exact (show False from hq).elim
  | ok fl =>
    cases fl with
    | ret u => exact I2.after hq
    | next => exact False.elim hq
    | brk => exact False.elim hq
    | cont => exact False.elim hq
end
/-- a def of the text is one -/
theorem fv_of {P : Program} {w : World} {K : PySem.W.Frag} {mg : Str → Option Value} {base : Heap} {k : Nat} {f : Addr} {fd : FuncData} {ps : List Str} {sp : Sp} {x qual : Str} {st : Stmt} (F : Fun K x qual st f fd) (G : FnOk P w K mg base CX0 k f fd ps sp) (b : Binds K fd ps []) :
    FvOk P w K mg base k f (fun _ => True) sp := by
  refine ⟨fun h H kx _ _ => ?_, fun A outer s H us vs Q hr e0 _ r q => ?_⟩
  · obtain ⟨oc, od, kV, doc, pm, an, cdv, ct, osl, _, lk, _⟩ := F.ex
    exact ⟨oc, od, fd, osl, kx _ _ lk⟩
  · have hl := G.len _ _ _ _ q
    have KX : K.In s.heap := e0.mod.kin.keeps fun b o e => (e0.bs b o e).1
    have hb := b s us KX (by rw [List.append_nil, ← r.length]; exact hl)
    rw [List.append_nil] at hb
    exact G.run A outer s H ⟨us, []⟩ us vs Q E0 hr e0 hb r q
/-! ### the lambda's object -/
structure LF where
  qual : Str
  params : Arguments
  body : Expr
  scope : Scope
  cl : List (Str × Addr)
  c : Addr
abbrev LF.fd (F : LF) (pm ctv : Value) : FuncData := PySem.W.kla_fn "<lambda>" F.qual F.params F.body F.scope F.cl pm (.ref F.c) ctv
abbrev LF.nf (F : LF) : NF := ⟨"<lambda>", F.qual, F.params, [], F.scope, F.cl, F.c⟩
def LmO (f : Addr) (F : LF) : HO := .ext fun h => ∃ (od : Option Addr) (sl : Array (Option Value)) (pm ctv : Value), h.get? f = some (⟨.type "function", od, .func (F.fd pm ctv), sl⟩ : Obj)
theorem lmO_at {P : Program} {w : World} {H : Hp} {h : Heap} {f : Addr} {F : LF} (hok : HOk P w H h) (e : H f = some (LmO f F)) : ∃ (od : Option Addr) (sl : Array (Option Value)) (pm ctv : Value), h.get? f = some (⟨.type "function", od, .func (F.fd pm ctv), sl⟩ : Obj) := by
  obtain ⟨z, _, _⟩ := hok f _ e
  exact z
section
variable {X : Cx} {pins : List (Addr × Obj)} {σ : L2.St} {H : Hp} {s : Shared}
theorem inv_lm {F : LF} {t' : Nat} {pm ctv : Value} (I : Inv X pins σ H s) :
    Inv X pins σ (upd H s.heap.objs.size (LmO s.heap.objs.size F)) { s with heap := s.heap.push ({ cls := .type "function", data := .func (F.fd pm ctv) } : Obj), toks := t' } := by
  refine I.laid (a := s.heap.objs.size) (fun b u e => Heap.get?_push_of_some _ e) (Nat.le_refl _) ?_
  have e : (s.heap.push ({ cls := .type "function", data := .func (F.fd pm ctv) } : Obj)).get? s.heap.objs.size = some ({ cls := .type "function", data := .func (F.fd pm ctv) } : Obj) := Heap.get?_push_size _ rfl
  exact ⟨⟨_, _, pm, ctv, e⟩, ⟨_, e⟩, fun h1 h2 ⟨od, sl, p, t, z⟩ st => ⟨od, sl, p, t, st _ z⟩⟩
/-- the lambda is made, and known from now on -/
theorem lam_make3 {T : List (Addr × Str)} {c P : Addr} {params : Arguments} {body : Expr} {scope : Scope} {pos : Pos} {E : Value → Shared → Prop} {Q : Value → Shared → Prop} (I : Inv X pins σ H s) (TB : TabB X.base X.mg c P) (hcode : X.env.code = .ref c)
    (hm : (P, X.env.qual ++ "<lambda>") ∈ T) (hu : ∀ p ∈ T, p.1 = P → p.2 = X.env.qual ++ "<lambda>") (hT : Tabs T H) (hdef : defaultsOf params X.env = ([], [])) (hfree : ∀ y ∈ scope.names, y.2 = .free → ∃ c, X.env.cells.lookup y.1 = some c)
    (h : ∀ (f c' : Addr) (H1 : Hp) (s' : Shared), Inv X pins σ H1 s' → ExtN H H1 → (∀ b, H1 b = Option.none → H b = Option.none) → Tabs T H1 → H f = Option.none →
      H1 f = some (LmO f ⟨X.env.qual ++ "<lambda>", params, body, scope, cloFrom X.env.cells scope.names [], c'⟩) → H1 c' = some (CodeO c' (X.env.qual ++ "<lambda>")) → Q (.ref f) s') :
    wpAny (model X.prog X.w) X.A (eval (.Lambda params body scope pos) X.env) Q E s := by
  obtain ⟨ps, hP, ht, ha⟩ := hT _ hm
  refine PySem.W.kla_eval hdef ?_
  have bP : s.heap.BuiltinsAt X.mg P := TB.bm.keeps I.bk
  have hP' : s.heap.get? P = some { cls := .none, data := .fields ps } := I.hok P _ hP
  cases hc : codeAmong pos ps.toList with
  | none =>
    refine PySem.W.kla_makeFunction (mg := X.mg) (c := c) (P := P) (ps := ps) (closure_ok hfree) I.ok.glob (I.mod.glob.keeps I.bk) hcode (TB.code.keeps I.bk) hP' ht hc TB.gP bP fun c' ctv h' tk hx hge hlt hrec htb => ?_
    obtain ⟨c2, oc, vs, t, e2, hoc, hd, hv⟩ := hrec
    cases e2
    have nC : H c' = none := I.hok.fresh hge
    have I1 := inv_table (t' := tk) (more := #[rawInt pos.line, rawInt pos.col, .ref c']) (h' := h') I hP (fun b o hb e => hx b o hb e) htb hge ⟨oc, vs, t, hoc, hd, hv⟩
    have hE : ExtN H (upd (upd H P (.tbl (ps ++ #[rawInt pos.line, rawInt pos.col, .ref c']))) c' (CodeO c' (X.env.qual ++ "<lambda>"))) := fun b o e n => by
      rw [upd_ne (ne_of_none e nC), upd_ne (fun z => n ps (Option.some.inj (e.symm.trans (by rw [z]; exact hP))))]
      exact e
    have eL : (ps ++ #[rawInt pos.line, rawInt pos.col, .ref c']).toList = ps.toList ++ [rawInt pos.line, rawInt pos.col, .ref c'] := by simp
    have T1 : Tabs T (upd (upd H P (.tbl (ps ++ #[rawInt pos.line, rawInt pos.col, .ref c']))) c' (CodeO c' (X.env.qual ++ "<lambda>"))) := fun p hp => by
      by_cases hb : p.1 = P
      · rw [hu p hp hb, hb]
        refine ⟨_, by rw [upd_ne (ne_of_none hP nC), upd_same], by rw [eL]; exact PySem.TriplesOk_snoc _ _ _ _ ht, fun p' cv hcv => ?_⟩
        rw [eL] at hcv
        rcases among_app _ ht hcv with z | z
        · obtain ⟨c0, e1, e2⟩ := ha p' cv z
          exact ⟨c0, e1, hE _ _ e2 codeO_ne⟩
        · exact ⟨c', z, upd_same⟩
      · obtain ⟨ps', a1, a2, a3⟩ := hT p hp
        refine ⟨ps', by rw [upd_ne (ne_of_none a1 nC), upd_ne hb]; exact a1, a2, fun p' cv hcv => ?_⟩
        obtain ⟨c0, e1, e2⟩ := a3 p' cv hcv
        exact ⟨c0, e1, hE _ _ e2 codeO_ne⟩
    have nF := I1.hok.fresh (Nat.le_refl _)
    have I2 := inv_lm (F := ⟨X.env.qual ++ "<lambda>", params, body, scope, cloFrom X.env.cells scope.names [], c'⟩) (t' := tk) (pm := (X.mg "__name__").getD .none) (ctv := ctv) I1
    refine h h'.objs.size c' _ _ I2 (fun b o e n => ?_) (fun b e => upd_none (upd_none (upd_none e))) (T1.ext fun b o e => ?_) (I.hok.fresh (Nat.le_trans hge (Nat.le_of_lt hlt))) upd_same ?_
    · have e1 := hE b o e n
      exact (upd_ne (ne_of_none e1 nF)).trans e1
    · exact (upd_ne (ne_of_none e nF)).trans e
    · exact (upd_ne (Nat.ne_of_lt hlt)).trans upd_same
  | some cv =>
    obtain ⟨c', e, hco⟩ := ha pos cv hc
    subst e
    refine PySem.W.kla_makeFunctionHit (mg := X.mg) (c := c) (P := P) (ps := ps) (closure_ok hfree) I.ok.glob (I.mod.glob.keeps I.bk) hcode (TB.code.keeps I.bk) hP' ht hc bP fun ctv h' tk hx hsz => ?_
    have I1 : Inv X pins σ H { s with heap := h', toks := tk } := I.kept hx
    have nF : H h'.objs.size = none := I1.hok.fresh (Nat.le_refl _)
    have I2 := inv_lm (F := ⟨X.env.qual ++ "<lambda>", params, body, scope, cloFrom X.env.cells scope.names [], c'⟩) (t' := tk) (pm := (X.mg "__name__").getD .none) (ctv := ctv) I1
    refine h h'.objs.size c' _ _ I2 (fun b o e n => ?_) (fun b e => upd_none e) (hT.ext fun b o e => ?_) nF upd_same ?_
    · exact (upd_ne (ne_of_none e nF)).trans e
    · exact (upd_ne (ne_of_none e nF)).trans e
    · exact (upd_ne (ne_of_none hco nF)).trans hco
end
/-- the reading of «lambda ..: ..» -/
def tLamE (T : List (Addr × Str)) (mk : Addr → LF) : TE := fun σ H Q => Tabs T H ∧ ∀ (f c' : Addr) (H1 : Hp), ExtN H H1 → (∀ b, H1 b = Option.none → H b = Option.none) → Tabs T H1 → H f = Option.none → H1 f = some (LmO f (mk c')) → H1 c' = some (CodeO c' (mk c').qual) → Q (.ref f) H1
theorem pe_lamE {X : Cx} {T : List (Addr × Str)} {c P : Addr} {params : Arguments} {body : Expr} {scope : Scope} {pos : Pos} (TB : TabB X.base X.mg c P) (hcode : X.env.code = .ref c)
    (hm : (P, X.env.qual ++ "<lambda>") ∈ T) (hu : ∀ p ∈ T, p.1 = P → p.2 = X.env.qual ++ "<lambda>") (hdef : defaultsOf params X.env = ([], [])) (hfree : ∀ y ∈ scope.names, y.2 = .free → X.env.scope.names.lookup y.1 = some .cell ∨ X.env.scope.names.lookup y.1 = some .free) :
    PE X (.Lambda params body scope pos) (tLamE T fun c' => ⟨X.env.qual ++ "<lambda>", params, body, scope, cloFrom X.env.cells scope.names [], c'⟩) := by
  refine ⟨fun pins s σ H Q I h => ?_⟩
  obtain ⟨hT, h⟩ := h
  have hfr : ∀ y ∈ scope.names, y.2 = .free → ∃ c, X.env.cells.lookup y.1 = some c := fun y hy e => (hfree y hy e).elim (fun z => I.ok.has _ (.inl z)) fun z => I.ok.has _ (.inr z)
  exact lam_make3 I TB hcode hm hu hT hdef hfr fun f c' H1 s' I1 eN nn T1 f0 f1 c1 => ⟨.ref f, H1, I1, rfl, h f c' H1 eN nn T1 f0 f1 c1⟩
/-! ### cells that are known while a callee runs -/
def CelO (c : Addr) (o : Obj) (v : V) : HO := .ext fun h => h.get? c = some o ∧ ∃ u, o.data = .cell (some u) ∧ RelV v u
/-- without the two -/
def out2 (H : Hp) (a b : Addr) : Hp := fun x => if x = a ∨ x = b then none else H x
theorem out2_ne {H : Hp} {a b x : Addr} (h1 : x ≠ a) (h2 : x ≠ b) : out2 H a b x = H x := if_neg fun z => z.elim h1 h2
theorem out2_l {H : Hp} {a b : Addr} : out2 H a b a = none := if_pos (.inl rfl)
theorem out2_r {H : Hp} {a b : Addr} : out2 H a b b = none := if_pos (.inr rfl)
theorem out2_some {H : Hp} {a b x : Addr} {o : HO} (h : out2 H a b x = some o) : x ≠ a ∧ x ≠ b ∧ H x = some o := by
  unfold out2 at h
  by_cases q : x = a ∨ x = b
  · rw [if_pos q] at h
    cases h
  · rw [if_neg q] at h
    exact ⟨fun z => q (.inl z), fun z => q (.inr z), h⟩
theorem out2_none {H : Hp} {a b x : Addr} (h : H x = none) : out2 H a b x = none := by
  unfold out2
  split
  · rfl
  · exact h
section
variable {P : Program} {w : World} {H : Hp} {h : Heap} {ch ck : Addr} {oh ok : Obj} {vh vk : V}
theorem celO_ok (e : h.get? ch = some oh) (d : ∃ u, oh.data = .cell (some u) ∧ RelV vh u) : ObjOk P w H h ch (CelO ch oh vh) :=
  ⟨⟨e, d⟩, ⟨oh, e⟩, fun h1 h2 ⟨a, b⟩ st => ⟨st _ a, b⟩⟩
theorem hok_out2 (hk : HOk P w H h) (h1 : H ch = some (CelO ch oh vh)) (h2 : H ck = some (CelO ck ok vk)) : HOk P w (out2 H ch ck) h := fun b o e => by
  obtain ⟨n1, n2, e⟩ := out2_some e
  refine (hk b o e).stay (fun _ _ _ q => q) (fun d q => ?_) fun d xs q => ?_
  · rw [out2_ne (fun z => by rw [z, h1] at q; cases q) (fun z => by rw [z, h2] at q; cases q)]
    exact q
  · rw [out2_ne (fun z => by rw [z, h1] at q; cases q) (fun z => by rw [z, h2] at q; cases q)]
    exact q
/-- put in again -/
theorem hok_in2 (hk : HOk P w (out2 H ch ck) h) (h1 : H ch = some (CelO ch oh vh)) (h2 : H ck = some (CelO ck ok vk)) (e1 : h.get? ch = some oh) (e2 : h.get? ck = some ok) (d1 : ∃ u, oh.data = .cell (some u) ∧ RelV vh u) (d2 : ∃ u, ok.data = .cell (some u) ∧ RelV vk u) : HOk P w H h := fun b o e => by
  by_cases q1 : b = ch
  · rw [q1, h1] at e
    cases e
    rw [q1]
    exact celO_ok e1 d1
  · by_cases q2 : b = ck
    · rw [q2, h2] at e
      cases e
      rw [q2]
      exact celO_ok e2 d2
    · refine (hk b o (by rw [out2_ne q1 q2]; exact e)).stay (fun _ _ _ q => q) (fun d q => (out2_some q).2.2) fun d xs q => (out2_some q).2.2
end
/-- the lambda at f, its cells' values known: heights is the object at ha, k the number k -/
structure LamAt (lp : Arguments) (lb : Expr) (ls : Scope) (f ha : Addr) (k : Int) (H : Hp) : Prop where
  ex : ∃ (F : LF) (ch ck : Addr) (oh ok : Obj), F.params = lp ∧ F.body = lb ∧ F.scope = ls ∧ H f = some (LmO f F) ∧ H F.c = some (CodeO F.c F.qual) ∧ F.cl.lookup ("heights" : Str) = some ch ∧ F.cl.lookup ("k" : Str) = some ck ∧ ch ≠ ck ∧
    (∀ y c, F.cl.lookup y = some c → y = ("heights" : Str) ∨ y = ("k" : Str)) ∧ H ch = some (CelO ch oh (.ref ha)) ∧ H ck = some (CelO ck ok (.int k))
/-- what is known by a predicate stays, and tuples -/
structure SameF (H H' : Hp) : Prop where
  x : ∀ b φ, H b = some (.ext φ) → H' b = some (.ext φ)
  t : ∀ b xs, H b = some (.tup xs) → H' b = some (.tup xs)
theorem SameF.of {H H' : Hp} (e : Same H H') : SameF H H' := ⟨fun b _ q => e b _ q, fun b _ q => e b _ q⟩
theorem SameF.trans {H H1 H2 : Hp} (a : SameF H H1) (b : SameF H1 H2) : SameF H H2 := ⟨fun c φ h => b.x c φ (a.x c φ h), fun c φ h => b.t c φ (a.t c φ h)⟩
theorem SameF.upd_dK {H : Hp} {r : Addr} {kvs : List (Key × V)} {o : HO} (h : H r = some (.dK kvs)) : SameF H (upd H r o) :=
  ⟨fun b φ q => by rw [upd_ne (ne_of q h (by intro z; cases z))]; exact q, fun b φ q => by rw [upd_ne (ne_of q h (by intro z; cases z))]; exact q⟩
theorem LamAt.same {lp : Arguments} {lb : Expr} {ls : Scope} {f ha : Addr} {k : Int} {H H' : Hp} (L : LamAt lp lb ls f ha k H) (e : SameF H H') : LamAt lp lb ls f ha k H' := by
  obtain ⟨F, ch, ck, oh, ok, h1, h2, h3, h4, h5, h6, h7, h8, h9, h10, h11⟩ := L.ex
  exact ⟨F, ch, ck, oh, ok, h1, h2, h3, e.x _ _ h4, e.x _ _ h5, h6, h7, h8, h9, e.x _ _ h10, e.x _ _ h11⟩
/-- two ints in, a truth value out, nothing else touched -/
def spB (g : Int → Int → Bool) : Sp := fun vs H Q _ => ∃ i j, vs = [V.int i, V.int j] ∧ Q (.bl (g i j)) H
def LamC (lp : Arguments) (lb : Expr) (ls : Scope) (f ha : Addr) (k : Int) (xs : List V) (H : Hp) : Prop := LamAt lp lb ls f ha k H ∧ H ha = some (.tup xs)
theorem LamC.same {lp : Arguments} {lb : Expr} {ls : Scope} {f ha : Addr} {k : Int} {xs : List V} {H H' : Hp} (L : LamC lp lb ls f ha k xs H) (e : SameF H H') : LamC lp lb ls f ha k xs H' := ⟨L.1.same e, e.t _ _ L.2⟩
/-- THE RULE: such a lambda, by its body -/
theorem fv_lam {P : Program} {w : World} {K : PySem.W.Frag} {mg : Str → Option Value} {base : Heap} {k : Nat} {lp : Arguments} {lb : Expr} {ls : Scope} {f ha : Addr} {kk : Int} {xs : List V} {g : Int → Int → Bool}
    (S : NScope ["last", "here", "heights", "k"] ["last", "here"] ["heights", "k"] ls)
    (hb : ∀ (q : Str) (cl : List (Str × Addr)) (pm cv ctv : Value) (us : List Value), us.length = 2 → bindArgs (PySem.W.kla_fn "<lambda>" q lp lb ls cl pm cv ctv) ⟨us, []⟩ = pure ((["last", "here"] : List Str).zip us))
    (hbody : ∀ (F : LF) (A : Around) (outer : List Env) (s : Shared) (Hm : Hp) (Q : VK) (i j : Int), F.scope = ls → Room k (A.deeper (envF F.nf f s.heap.objs.size)) → Hm ha = some (.tup xs) → Q (.bl (g i j)) Hm →
      ∃ t, PE (ncx CX0 P w K mg base ["last", "here", "heights", "k"] F.nf f A outer s Hm E0) lb t ∧ t [some (.int i), some (.int j), some (.ref ha), some (.int kk)] Hm Q) :
    FvOk P w K mg base (k + 1) f (LamC lp lb ls f ha kk xs) (spB g) := by
  refine ⟨fun h H kx hok hc => ?_, fun A outer s H us vs Q hr e0 hc r q => ?_⟩
  · obtain ⟨F, ch, ck, oh, ok, h1, h2, h3, h4, _⟩ := hc.1.ex
    obtain ⟨od, sl, pm, ctv, ho⟩ := lmO_at hok h4
    exact ⟨_, od, _, sl, ho⟩
  · obtain ⟨⟨F, ch, ck, oh, ok, h1, h2, h3, h4, h5, h6, h7, h8, h9, h10, h11⟩, hha⟩ := And.intro hc.1.ex hc.2
    obtain ⟨i, j, rfl, q⟩ := q
    have lim : s.heap.NoLimit := e0.mod.nolimit.keeps fun b o e => (e0.bs b o e).1
    obtain ⟨od, sl, pm, ctv, ho⟩ := lmO_at e0.hok h4
    have S' : NScope ["last", "here", "heights", "k"] ["last", "here"] ["heights", "k"] F.nf.scope := by
      show NScope _ _ _ F.scope
      rw [h3]
      exact S
    have ul : us.length = 2 := r.length.symm
    obtain ⟨⟨⟨e1, d1⟩, _⟩, ⟨e2, d2⟩, _⟩ := And.intro (e0.hok ch _ h10) (e0.hok ck _ h11)
    -- the abstract heap without the cells
    have hokm := hok_out2 e0.hok h10 h11
    have e0m : Env0 P w K mg base A outer s (out2 H ch ck) := ⟨e0.frames, e0.mod, fun b o e => ⟨(e0.bs b o e).1, out2_none (e0.bs b o e).2⟩, e0.bsz, e0.funs, fun b hb => out2_none (e0.frf b hb), hokm, e0.bare⟩
    have hham : out2 H ch ck ha = some (.tup xs) := by
      rw [out2_ne (fun z => by rw [z, h10] at hha; cases hha) (fun z => by rw [z, h11] at hha; cases hha)]
      exact hha
    have C : CellsAt F.nf.cl ["heights", "k"] [some (.ref ha), some (.int kk)] s.heap (out2 H ch ck) := by
      refine ⟨rfl, fun y c e => ?_, fun x y c ex ey => ?_, fun n y e => ?_⟩
      · obtain ⟨u1, d1, _⟩ := d1
        obtain ⟨u2, d2, _⟩ := d2
        rcases h9 y c e with z | z
        · subst z
          have e := e.symm.trans h6
          cases e
          exact ⟨out2_l, _, oh, e1, d1⟩
        · subst z
          have e := e.symm.trans h7
          cases e
          exact ⟨out2_r, _, ok, e2, d2⟩
      · rcases h9 x c ex with z | z <;> rcases h9 y c ey with z2 | z2 <;> subst z <;> subst z2
        · rfl
        · exact absurd ((Option.some.inj (h6.symm.trans ex)).trans (Option.some.inj (h7.symm.trans ey)).symm) h8
        · exact absurd ((Option.some.inj (h6.symm.trans ey)).trans (Option.some.inj (h7.symm.trans ex)).symm) h8
        · rfl
      · obtain ⟨u1, d1, r1⟩ := d1
        obtain ⟨u2, d2, r2⟩ := d2
        match n, e with
        | 0, e =>
          cases e
          refine ⟨ch, h6, fun v ev => ?_⟩
          cases ev
          exact ⟨u1, r1, oh, e1, d1⟩
        | 1, e =>
          cases e
          refine ⟨ck, h7, fun v ev => ?_⟩
          cases ev
          exact ⟨u2, r2, ok, e2, d2⟩
    refine PySem.W.kla_callFunE hr.depth ho rfl S'.co S'.gen rfl (codeO_at e0.hok h5) ?_
    have hbb : bindArgs (F.fd pm ctv) ⟨us, []⟩ = pure ((["last", "here"] : List Str).zip us) := by
      show bindArgs (PySem.W.kla_fn "<lambda>" F.qual F.params F.body F.scope F.cl pm (.ref F.c) ctv) ⟨us, []⟩ = _
      rw [h1, h2, h3]
      exact hb _ _ _ _ _ _ ul
    rw [hbb]
    refine wpAny_pure (wpAny_newFunctionEnv S'.nocell (fun ⟨n, _⟩ hy => S'.par n (List.of_mem_zip hy).1) (fun h₁ hns hsb => ⟨lim.fresh _ hsb, ?_⟩) S'.kind)
    show codeAny _ _ (.expr F.body (envF F.nf f s.heap.objs.size)) _ _
    have kp : ∀ b o, s.heap.get? b = some o → h₁.get? b = some o := fun b o e => hsb.extBut b o (Nat.ne_of_lt (Heap.lt_size e)) (Heap.get?_push_of_some _ e)
    have I : Inv (ncx CX0 P w K mg base ["last", "here", "heights", "k"] F.nf f A outer s (out2 H ch ck) E0) [] (startF ["last", "here", "heights", "k"] [V.int i, V.int j] [some (.ref ha), some (.int kk)]) (out2 H ch ck) { s with heap := h₁, toks := s.toks + ((["last", "here"] : List Str).zip us).length } := inv_startN S' hr.hd e0m rfl r C hns kp
    obtain ⟨t, ht, hq⟩ := hbody F A outer s (out2 H ch ck) (fun v H' => v = .bl (g i j) ∧ H' = out2 H ch ck) i j h3 (hr.deeper _) hham ⟨rfl, rfl⟩
    rw [h2]
    refine PySem.W.kla_codeExpr (wpAny_mono (ht.run [] _ _ _ _ I hq) (fun u s' hs => ?_) fun e s' hs => hs)
    obtain ⟨v, H', J, rv, ev, eH⟩ := hs
    subst ev
    subst eH
    have un : Un (frs outer) [] (out2 H ch ck) (out2 H ch ck) s.heap s'.heap := J.base
    have nfr : ∀ c o, H c = some o → c ∉ frs outer := fun c o e z => by
      rw [e0.frf c z] at e
      cases e
    have k1 : s'.heap.get? ch = some oh := un.keep ch oh e1 out2_l (nfr _ _ h10) (by simp)
    have k2 : s'.heap.get? ck = some ok := un.keep ck ok e2 out2_r (nfr _ _ h11) (by simp)
    exact ⟨.bl (g i j), H, J.os, J.bare, ⟨fun b o e n hb hx => un.keep b o e (out2_none n) hb hx, fun b o e n hb hx => un.slot b o e (out2_none n) hb hx, fun b o e n hx => n, fun b o e hx => un.there b o e hx, fun _ _ e => e, fun _ _ _ e => e, fun b ps e => ⟨#[], by rw [e]; simp⟩⟩,
      hok_in2 J.hok h10 h11 k1 k2 d1 d2, rv, q⟩
/-! ### a call while two cells of the running frame are known -/
def tCallC (X : Cx) (iH iK : Nat) (sp : Sp) (t : TA) : TE := fun σ H Q => t σ H fun vs H1 => ∃ vh vk, σ[iH]? = some (some vh) ∧ σ[iK]? = some (some vk) ∧ ∀ (ch ck : Addr) (oh ok : Obj),
  X.env.cells.lookup ("heights" : Str) = some ch → X.env.cells.lookup ("k" : Str) = some ck → H1 ch = none → H1 ck = none → ch ≠ ck →
  sp vs (upd (upd H1 ch (CelO ch oh vh)) ck (CelO ck ok vk)) (fun v H2 => H2 ch = some (CelO ch oh vh) ∧ H2 ck = some (CelO ck ok vk) ∧ Q v (out2 H2 ch ck)) E0
theorem pe_callC {X : Cx} {k iH iK : Nat} {f : Addr} {fd : FuncData} {ps : List Str} {sp : Sp} {x : Str} {p pos : Pos} {e : Expr} {es : List Expr} {t : TA} (F : FnOk X.prog X.w X.K X.mg X.base CX0 k f fd ps sp) (hr : Room k X.A) (hg : Gl X x) (hm : X.mg x = some (.ref f)) (hk : PySem.W.keepIn X.K (.ref f) = true) (hb : Binds X.K fd ps [])
    (hNh : X.N[iH]? = some "heights") (hNk : X.N[iK]? = some "k") (hkh : X.env.scope.names.lookup ("heights" : Str) = some .cell) (hkk : X.env.scope.names.lookup ("k" : Str) = some .cell) (hfn : ∀ y, X.fn y = true)
    (ha : PA X (e :: es) t) (hdb : (x == ("__debug__" : Str)) = false := by decide) (he : starEach (e :: es) X.env = (false, eval e X.env) :: starEach es X.env := by rfl) (hpl : (backTo pos (starEach es X.env)).any (·.1) = false := by rfl) :
    PE X (.Call (.Name x p) (e :: es) [] pos) (tCallC X iH iK sp t) := by
  refine ⟨fun pins s σ H Q I h => ?_⟩
  refine wpAny_Call_Name_kw (ld_glob I hg hm ?_ hdb)
  refine PySem.W.callWith_K (h₀ := X.base) I.ok.mod.kin hk (thn (ha.run pos pins s σ H _ I h) fun us s1 ⟨vs, H1, I1, r, q⟩ => ⟨I1.kIn, ?_⟩) he hpl
  obtain ⟨vh, vk, sh, sk, q⟩ := q
  show wpAny _ _ (call (.ref f) us) _ _ _
  -- the cells
  have cellOf : ∀ (i : Nat) (y : Str) (v : V), X.N[i]? = some y → σ[i]? = some (some v) → X.env.scope.names.lookup y = some .cell → ∃ (c : Addr) (o : Obj), X.env.cells.lookup y = some c ∧ s1.heap.get? c = some o ∧ ∃ u, o.data = .cell (some u) ∧ RelV v u := fun i y v e1 e2 e3 => by
    obtain ⟨m, hn, hl⟩ := I1.loc
    obtain ⟨u, ru, l⟩ := hl i y v e1 e2 (.inr (.inl e3))
    rcases l with ⟨z, _⟩ | ⟨_, c, hc, o, ho, hd⟩
    · have z' : X.env.scope.names.lookup y = some .local := z
      rw [e3] at z'
      cases z'
    · exact ⟨c, o, hc, ho, u, hd, ru⟩
  obtain ⟨ch, oh, lh, gh, dh⟩ := cellOf iH "heights" vh hNh sh hkh
  obtain ⟨ck, ok, lk, gk, dk⟩ := cellOf iK "k" vk hNk sk hkk
  have nh : H1 ch = none := I1.freeC _ _ lh
  have nk : H1 ck = none := I1.freeC _ _ lk
  have nhk : ch ≠ ck := fun z => by
    rw [z] at lh
    have := I1.ok.inj _ _ _ lh lk
    revert this
    decide +kernel
  have q := q ch ck oh ok lh lk nh nk nhk
  generalize hH2 : upd (upd H1 ch (CelO ch oh vh)) ck (CelO ck ok vk) = H2 at q
  have a1 : H2 ch = some (CelO ch oh vh) := by
    rw [← hH2, upd_ne nhk, upd_same]
  have a2 : H2 ck = some (CelO ck ok vk) := by
    rw [← hH2, upd_same]
  have a3 : ∀ b, b ≠ ch → b ≠ ck → H2 b = H1 b := fun b n1 n2 => by
    rw [← hH2, upd_ne n2, upd_ne n1]
  have a4 : ∀ b o, H1 b = some o → H2 b = some o := fun b o e => by
    rw [a3 b (ne_of_none e nh) (ne_of_none e nk)]
    exact e
  have hok2 : HOk X.prog X.w H2 s1.heap := fun b o e => by
    by_cases q1 : b = ch
    · rw [q1, a1] at e
      cases e
      rw [q1]
      exact celO_ok gh dh
    · by_cases q2 : b = ck
      · rw [q2, a2] at e
        cases e
        rw [q2]
        exact celO_ok gk dk
      · rw [a3 b q1 q2] at e
        exact (I1.hok b o e).stay (fun _ _ _ z => z) (fun d z => a4 _ _ z) fun d xs z => a4 _ _ z
  have abv : ∀ y c, X.env.cells.lookup y = some c → X.s_0.heap.objs.size ≤ c := fun y c e => I1.ok.cab y c (hfn y) e
  have E1 := I1.env0
  have frz : ∀ b ∈ frs X.stack, b ≠ ch ∧ b ≠ ck := fun b hb => by
    rcases List.mem_cons.mp (I1.stkSub b hb) with z | z
    · rw [z]
      exact ⟨fun w => I1.cne _ _ lh w.symm, fun w => I1.cne _ _ lk w.symm⟩
    · obtain ⟨_, o, ho, _⟩ := I1.ok.funs.mem z
      have l := Heap.lt_size ho
      exact ⟨Nat.ne_of_lt (Nat.lt_of_lt_of_le l (abv _ _ lh)), Nat.ne_of_lt (Nat.lt_of_lt_of_le l (abv _ _ lk))⟩
  have e0 : Env0 X.prog X.w X.K X.mg X.base X.A X.stack s1 H2 := by
    refine ⟨E1.frames, E1.mod, fun b o e => ⟨(E1.bs b o e).1, ?_⟩, E1.bsz, E1.funs, fun b hb => ?_, hok2, E1.bare⟩
    · have l := Nat.lt_of_lt_of_le (Heap.lt_size e) I1.ok.bsz
      rw [a3 b (Nat.ne_of_lt (Nat.lt_of_lt_of_le l (abv _ _ lh))) (Nat.ne_of_lt (Nat.lt_of_lt_of_le l (abv _ _ lk)))]
      exact (E1.bs b o e).2
    · rw [a3 b (frz b hb).1 (frz b hb).2]
      exact E1.frf b hb
  have hl := F.len _ _ _ _ q
  have hbb := hb s1 us I1.kIn (by rw [List.append_nil, ← r.length]; exact hl)
  rw [List.append_nil] at hbb
  refine wpAny_call (codeAny_mono (F.run X.A X.stack s1 H2 ⟨us, []⟩ us vs _ E0 hr e0 hbb r q) fun r s' hq => ?_)
  cases r with
  | error e => exact (show False from hq).elim
  | ok fl =>
    cases fl with
    | next => exact False.elim hq
    | brk => exact False.elim hq
    | cont => exact False.elim hq
    | ret u =>
      obtain ⟨v, H', os, bare, un, hok', rv, b1, b2, q'⟩ := hq
      obtain ⟨⟨g1, _⟩, _⟩ := hok' ch _ b1
      obtain ⟨⟨g2, _⟩, _⟩ := hok' ck _ b2
      have old : ∀ b o, H1 b = some o → H' b = some o → out2 H' ch ck b = some o := fun b o e e' => by
        rw [out2_ne (ne_of_none e nh) (ne_of_none e nk)]
        exact e'
      refine I1.after ⟨v, out2 H' ch ck, os, bare, ⟨fun b o e n hb hx => ?_, fun b o e n hb hx => ?_, fun b o e n hx => ?_, fun b o e hx => un.there b o e hx, fun b xs e => ?_, fun b o xs e => ?_, fun b ps e => ?_⟩, hok_out2 hok' b1 b2, rv, q'⟩
      · by_cases q1 : b = ch
        · rw [q1] at e ⊢
          rw [gh] at e
          cases e
          exact g1
        · by_cases q2 : b = ck
          · rw [q2] at e ⊢
            rw [gk] at e
            cases e
            exact g2
          · exact un.keep b o e (by rw [a3 b q1 q2]; exact n) hb hx
      · exact un.slot b o e (by rw [a3 b (frz b hb).1 (frz b hb).2]; exact n) hb hx
      · by_cases q1 : b = ch
        · rw [q1]
          exact out2_l
        · by_cases q2 : b = ck
          · rw [q2]
            exact out2_r
          · exact out2_none (un.free b o e (by rw [a3 b q1 q2]; exact n) hx)
      · exact old _ _ e (un.tups b xs (a4 _ _ e))
      · exact old _ _ e (un.frzs b o xs (a4 _ _ e))
      · obtain ⟨more, z⟩ := un.tbls b ps (a4 _ _ e)
        exact ⟨more, by rw [out2_ne (ne_of_none e nh) (ne_of_none e nk)]; exact z⟩
end LvL

/-! Rules that the layer lacks: in a tuple of data; enumerate of a tuple; sum of a dict's values; a display with one tuple key. -/
namespace LvG
open PySem PySem.Spec PyProof.Rows L2
/-! ### x in t, t a tuple -/
def rInT (K : PySem.W.Frag) : R2 := fun x y H Q => ∃ d ds, Dp K H x d ∧ Dp K H y (.tuple ds) ∧ SeqAt.shaped d = true ∧ SeqAt.shaped (.tuple ds) = true ∧ Q (.bl (ds.any fun z => PyData.eqv z d)) H
theorem op_inT {X : Cx} (hu : X.A.units + 65 < cLine) : OpR X (compareOp .In) (rInT X.K) := by
  intro pins s σ H x y v u Q I rx ry h
  obtain ⟨d, ds, hd, he, sd, se, q⟩ := h
  obtain ⟨as, r1⟩ := Dp.reads I d x v hd rx
  obtain ⟨bs, r2⟩ := Dp.reads I (.tuple ds) y u he ry
  exact SeqAt.in_tuple_reads r2 r1 (SeqAt.canLay_of_shaped se) (SeqAt.canLay_of_shaped sd) (room_in_shaped sd hu) ⟨.bl _, H, I, rfl, q⟩
/-! ### {t: v} -/
def tDispT (tk tv : TE) : TE := fun σ H Q => ∀ p, H p = none → tk σ (upd H p (.dT [])) fun x H1 => tv σ H1 fun y H2 => H2 p = some (.dT []) ∧ ∃ (b : Addr) (ks : List Key), x = .ref b ∧ H2 b = some (.tup (ks.map kV)) ∧ Q (.ref p) (upd H2 p (.dT [(ks, y)]))
theorem pe_dispT {X : Cx} {pos : Pos} {k v : Expr} {tk tv : TE} (hu : X.A.units + 1 < cLine) (hk : PE X k tk) (hv : PE X v tv) : PE X (.Dict [some k] [v] pos) (tDispT tk tv) := by
  refine ⟨fun pins s σ H Q I q => ?_⟩
  have hn := I.hok.fresh (Nat.le_refl s.heap.objs.size)
  have I1 := I.laid (a := s.heap.objs.size) (o := .dT []) (h' := s.heap.push { cls := .type "dict", data := .dict #[] }) (t' := s.toks) (fun _ _ q => Heap.get?_push_of_some _ q) (Nat.le_refl _) (dt_empty s.heap I.big)
  rw [arm_eval_Dict, zip_pairTrees [some k] [v] X.env pos rfl rfl, dictDisplay_pairs (pairTrees [some k] [v] X.env pos) (by simp [pairTrees]) (by simp [pairTrees])]
  refine wpAny_bind (wpAny_standAt (wpAny_bind (wpAny_subDictH (knd := tupleKind (mixKind X.prog X.w)) (Q := fun d s' => wpAny (model X.prog X.w) X.A (pure (Value.ref d)) (EP X pins σ Q) X.xe s') (by show X.A.units < cLine; omega) (by simp [pairTrees]) ?_)))
  refine pairTrees_cons_walk (thn (hk.run pins _ σ _ _ I1 (q _ hn)) fun u s1 ⟨x, H1, J1, rx, q1⟩ => thn (hv.run pins s1 σ H1 _ J1 q1) fun u2 s2 ⟨y, H2, J2, ry, e, b, ks, ex, eb, q2⟩ => pairTrees_nil_walk ?_)
  subst ex
  cases rx
  obtain ⟨z, hd, xs, rel, dd⟩ := dt_of J2.hok e
  have hxs : xs = [] := by
    cases rel
    rfl
  subst hxs
  refine ⟨[(ks, b, u2)], ⟨rfl, rfl, key_of J2.hok eb, trivial⟩, dd, fun h' tk hD hs => wpAny_pure ?_⟩
  obtain ⟨o, es, ep, h1, h2, h3, h4, _, h5⟩ := hD
  refine ⟨.ref s.heap.objs.size, upd H2 s.heap.objs.size (.dT [(ks, y)]), d_write J2 (by rw [e]; exact True.intro) hs ⟨o, h1⟩ ?_, rfl, q2⟩
  refine ⟨by show 1 ≤ sizeLine; decide, hd, _, .cons ⟨rfl, ?_, ry⟩ .nil, o, es, ep, h1, h2, h3, h4, h5⟩
  show upd H2 s.heap.objs.size (.dT [(ks, y)]) b = some (.tup (ks.map kV))
  rw [upd_ne (ne_of eb e (fun z => nomatch z))]
  exact eb
/-! ### sum(d.values()) -/
def viewO (p d : Addr) : HO := .ext fun h => h.get? p = some ({ cls := .type "dict_values", data := .fields #[.ref d] } : Obj)
section
variable {X : Cx} {e : Expr} {td : TE} {apos cpos : Pos}
def tVals (td : TE) : TE := fun σ H Q => td σ H fun x H1 => ∃ d kvs, x = .ref d ∧ H1 d = some (.dK kvs) ∧ ∀ p, H1 p = none → Q (.ref p) (upd H1 p (viewO p d))
theorem pe_vals (he : PE X e td) (hbase : attributeBase e "values" X.env (eval e X.env) = eval e X.env := by rfl) (hline : (apos.endLine == cpos.line) = true := by rfl) : PE X (.Call (.Attribute e "values" apos) [] [] cpos) (tVals td) := by
  refine ⟨fun pins s σ H Q I h => ?_⟩
  refine wpAny_Call_method (T := "dict") (id := "dict.values") hbase rfl hline F.plainAttrs_dict F.slot_dict_values F.type_dict_values (thn (he.run pins s σ H _ I h) fun u s1 ⟨x, H1, I1, rx, d, kvs, ex, hd, q⟩ => ?_)
  subst ex
  obtain rfl : u = Value.ref d := rx
  obtain ⟨z, hs, vs, rel, hm⟩ := dk_of I1.hok hd
  refine ⟨hm.typeIs, hm.mapOf.noDict, ?_⟩
  show wpAny _ _ (callWith cpos (.builtin "dict.values") [.ref d] [] []) _ X.xe s1
  refine method_meetsIn F.slot_dict_values F.entry_dict_values rfl (PySem.evalArgs_none ⟨rfl, hm.typeIs, F.args_dict_values_1 _, _, meets_dict_values (mixKind X.prog X.w) d hs, ⟨vs, hm⟩, ?_⟩)
  have e1 : (s1.heap.push ({ cls := .type "dict_values", data := .fields #[.ref d] } : Obj)).get? s1.heap.objs.size = some ({ cls := .type "dict_values", data := .fields #[.ref d] } : Obj) := Heap.get?_push_size _ rfl
  exact ⟨.ref s1.heap.objs.size, _, I1.laid (a := s1.heap.objs.size) (o := viewO s1.heap.objs.size d) (t' := s1.toks) (fun b ob q => Heap.get?_push_of_some _ q) (Nat.le_refl _) ⟨e1, ⟨_, e1⟩, fun h1 h2 a st => st _ a⟩, rfl, q _ (I1.hok.fresh (Nat.le_refl _))⟩
theorem preSum_list : ∀ (ns : List Int), preSum (fun i => ns.getD i 0) ns.length = ns.sum
  | [] => rfl
  | a :: r => by
    show preSum (fun i => (a :: r).getD i 0) (r.length + 1) = (a :: r).sum
    rw [PySem.W.kdu_shift, List.sum_cons, ← preSum_list r]
    rfl
def rSumV : List V → Hp → VK → Prop := fun xs H Q => ∃ (p d : Addr) (kvs : List (Key × V)) (ns : List Int), xs = [V.ref p] ∧ H p = some (viewO p d) ∧ H d = some (.dK kvs) ∧ kvs.map Prod.snd = ns.map V.int ∧ Q (.int ns.sum) H
theorem cr_sumV (hc : X.calm = true) : CallR X (.builtin "sum") rSumV := by
  intro pins s σ H xs us Q I rx h
  obtain ⟨p, d, kvs, ns, rfl, hp, hd, hns, q⟩ := h
  rw [Vals.ref1 rx]
  obtain ⟨hv, _, _⟩ := I.hok p _ hp
  obtain ⟨z, hs, vs, rel, hm⟩ := dk_of I.hok hd
  obtain ⟨ep, hat⟩ := hm.dictAt
  have hl : vs.length = ns.length := by
    have e := congrArg List.length hns
    rw [List.length_map, List.length_map] at e
    rw [← Paired.length rel]
    exact e
  have K := PySem.W.kdl_values (prog := X.prog) (w := X.w) (r := p) (d := d) (knd := mixKind X.prog X.w) (kvs := vs) (ep := ep)
  have ok : s.heap.IsValuesView p d ∧ s.heap.DictAt (mixKind X.prog X.w) d vs ep := ⟨⟨_, hv, rfl, rfl⟩, hat⟩
  refine call_sum_walkAnyS ?_
  obtain ⟨oI, St, hit, W, st⟩ := K.iter X.A.in1 s (I.ok.hd hc) ok
  refine hit _ _ ⟨s.heap.objs.size, _, _, _, vs.length, _, _, fun i => ns.getD i 0, rfl, W.toS, st, fun b hb => ?_, fun i v hi => ?_, fun s' t' hmv => ?_⟩
  · show b < (s.heap.push oI).objs.size
    show b < (s.heap.push oI).objs.size; rw [Heap.size_push]
    rcases List.mem_cons.mp hb with e | hb
    · rw [e]; exact Nat.lt_succ_self _
    · rw [List.mem_singleton.mp hb]; exact Nat.lt_succ_of_lt (K.there _ ok).2
  · obtain ⟨k, hx⟩ := hi
    have hi2 : i < kvs.length := by
      rw [Paired.length rel]
      exact (List.getElem?_eq_some_iff.mp hx).1
    obtain ⟨⟨k2, v2⟩, hkv⟩ : ∃ p, kvs[i]? = some p := ⟨kvs[i], List.getElem?_eq_getElem hi2⟩
    obtain ⟨u, hu, ru⟩ := kv_get rel hkv
    rw [hx] at hu
    cases hu
    have e3 : (kvs.map Prod.snd)[i]? = some v2 := by
      rw [List.getElem?_map, hkv]
      rfl
    rw [hns, List.getElem?_map] at e3
    cases e4 : ns[i]? with
    | none => rw [e4] at e3; cases e3
    | some n =>
      rw [e4] at e3
      cases e3
      obtain ⟨t, et⟩ := ru
      refine ⟨t, ?_⟩
      rw [et]
      show Value.int n t = Value.int (ns.getD i 0) t
      rw [List.getD_eq_getElem?_getD, e4]
      rfl
  · have hk : ∀ b o, s.heap.get? b = some o → s'.heap.get? b = some o := fun b o e =>
      hmv.heap b o (fun hI => absurd (Heap.lt_size e) (by rw [List.mem_singleton.mp hI]; exact Nat.lt_irrefl _)) (Heap.get?_push_of_some _ e)
    rw [PySem.Moved.eq_with hmv]
    rw [hl, preSum_list]
    exact ⟨.int ns.sum, H, I.kept hk, ⟨_, rfl⟩, q⟩
end
/-! ### enumerate(t), t a tuple -/
section
variable {prog : Program} {w : World} {A : Around} {E : Value → Shared → Prop} {s : Shared}
set_option maxHeartbeats 4000000 in
theorem meets_enumerate_newT (l : Addr) (items : Array Value) :
    Meets (Builtin.«enumerate.__new__» ⟨[.type "enumerate", .ref l], []⟩) (fun _ R s => s.heap.IsTuple l items ∧
      R (.ok (.ret (.ref (s.heap.push { cls := .type "tuple_iterator", data := .fields #[.ref l, .int 0 0] }).objs.size)))
        { s with heap := (s.heap.push { cls := .type "tuple_iterator", data := .fields #[.ref l, .int 0 0] }).push { cls := .type "enumerate", data := .fields #[.none, .bool false, .ref s.heap.objs.size, rawInt 0, .none, .none] } }) :=
  .of_wp fun prog w A R s h => by
    obtain ⟨hp, g, d, tk, os⟩ := s; obtain ⟨hl, h⟩ := h
    have hsub := sub_enumerate
    have q1 : ∀ {A' : Around} {E : Value → Shared → Prop} {Q : Value → Shared → Prop}, Q (.ref hp.objs.size) ⟨hp.push { cls := .type "tuple_iterator", data := .fields #[.ref l, .int 0 0] }, g, d, tk, os⟩ → wpAny (model prog w) A' (pyIter (.ref l)) Q E ⟨hp, g, d, tk, os⟩ :=
      fun q => wpAny_pyIter_tuple hl q
    wp_walk using q1
    refine wpAny_stack_any fun st => wpAny_pure ?_
    split
    · rename_i c _ _ _ _ _
      cases (c == Value.type "enumerate")
      · wp_walk using q1
        exact ⟨_, rfl, h⟩
      · wp_walk using q1
        exact ⟨_, rfl, h⟩
    · wp_walk using q1
      exact ⟨_, rfl, h⟩
theorem call_enumerate_tuple {l : Addr} {items : Array Value} {Q : Value → Shared → Prop} (hL : s.heap.IsTuple l items)
    (h : ∀ h', IsEnum h' (s.heap.objs.size + 1) s.heap.objs.size 0 .none → h'.IsTupleIter s.heap.objs.size l 0 → h'.objs.size = s.heap.objs.size + 2 →
      (∀ b o, s.heap.get? b = some o → h'.get? b = some o) → Q (.ref (s.heap.objs.size + 1)) { s with heap := h' }) :
    wpAny (model prog w) A (call (.type "enumerate") [.ref l]) Q E s := by
  refine callType_new F.called_enumerate (by decide) (F.typeCall_enumerate_1 _) (F.newCall_enumerate_1 _) (fun obj => F.args_object_init_2 obj _) F.entry_enumerate_new
    (meets_enumerate_newT l items) ⟨hL, ?_⟩
  have hz : (s.heap.push { cls := .type "tuple_iterator", data := .fields #[.ref l, .int 0 0] }).objs.size = s.heap.objs.size + 1 := Heap.size_push ..
  show _ ∧ _
  rw [hz]
  have he : IsEnum ((s.heap.push { cls := .type "tuple_iterator", data := .fields #[.ref l, .int 0 0] }).push
      { cls := .type "enumerate", data := .fields #[.none, .bool false, .ref s.heap.objs.size, rawInt 0, .none, .none] }) (s.heap.objs.size + 1) s.heap.objs.size 0 .none := by
    have := Heap.get?_push_size (s.heap.push { cls := .type "tuple_iterator", data := .fields #[.ref l, .int 0 0] })
      (o := { cls := .type "enumerate", data := .fields #[.none, .bool false, .ref s.heap.objs.size, rawInt 0, .none, .none] }) rfl
    rw [hz] at this; exact this
  refine ⟨⟨_, he, rfl⟩, h _ he ⟨_, Heap.get?_push_of_some _ (Heap.get?_push_size _ rfl), rfl, rfl⟩ (by rw [Heap.size_push, hz]) fun b o x => Heap.get?_push_of_some _ (Heap.get?_push_of_some _ x)⟩
end
def Itet (K : PySem.W.Frag) (a : Addr) : It :=
  ⟨fun i H => ∃ (xs : List V) (x : V), SqT K H a xs ∧ xs[i]? = some x, fun i H v H' => ∃ T x, v = .ref T ∧ H T = none ∧ H' = upd H T (.tup [.int (i : Nat), x]) ∧ ∀ xs, SqT K H a xs → xs[i]? = some x, fun i H => ∃ xs : List V, SqT K H a xs ∧ xs.length = i⟩
theorem turn_enumT {P : Program} {w : World} {K : PySem.W.Frag} {elts : List Expr} {kk : Nat} {tpos : Pos} (a e it : Addr) :
    Turn P w K (.Tuple elts kk tpos) (Itet K a) [e, it] e (fun i h => (∃ old, IsEnum h e it ((i : Nat) : Int) old) ∧ h.IsTupleIter it a i ∧ e ≠ it ∧ a ≠ it ∧ a ≠ e) where
  mem := by simp
  obj := fun i h st b hb => by
    obtain ⟨⟨old, he⟩, ⟨o, ho, hc, hd⟩, _⟩ := st
    have e' : b = e ∨ b = it := by simpa using hb
    rcases e' with z | z
    · rw [z]; exact ⟨_, he, fun v q => nomatch q⟩
    · rw [z]; exact ⟨o, ho, fun v q => by rw [hd] at q; cases q⟩
  keep := fun i h h' st k => let ⟨⟨old, he⟩, hi, hne⟩ := st; ⟨⟨old, k e (by simp) _ he⟩, hi.at fun o q => k it (by simp) o q, hne⟩
  item := by
    intro X hP hw hK hc i pins s σ H E I hf st hg
    subst hP hw hK
    obtain ⟨⟨old, he⟩, hit, hne, hn2, hn3⟩ := st
    obtain ⟨xs, x, hq, hx⟩ := hg
    obtain ⟨its, rv, p, hz⟩ := I.tuple hq
    obtain ⟨u, hu, ru⟩ := rv.get hx
    have hel : e < s.heap.objs.size := Heap.lt_size he
    have hil : it < s.heap.objs.size := by obtain ⟨_, q, _⟩ := hit; exact Heap.lt_size q
    have D := Draws.tuple (prog := X.prog) (w := X.w) (A := X.A.in1) (show X.A.in1.handled = none from I.ok.hd hc) it a hn2 its.toArray
    have hlt : i < its.toArray.size := by
      have := (List.getElem?_eq_some_iff.mp hu).1
      simpa using this
    refine wpAny_pyNext_enum_itemD D he ⟨hit, p⟩ hlt hne (by simp [hne, Ne.symm hn3]) fun x' h' tk hx' ho hit' hT hsz hk => ?_
    have ex : x' = u := by
      have h1 : its.toArray[i]? = some x' := hx'
      rw [List.getElem?_toArray, hu] at h1
      exact (Option.some.inj h1).symm
    subst ex
    refine ⟨_, rfl, wpAny_letOwnedTupleGo_enum (s := { s with heap := h', toks := tk + 1 }) ho fun h'' he' sb => ?_⟩
    have hT2 : h''.get? s.heap.objs.size = some { cls := .type "tuple", data := .seq #[.int i tk, x'] } := (sb.2 _ (Nat.ne_of_gt hel)).trans hT
    have new : ObjOk X.prog X.w (upd H s.heap.objs.size (.tup [.int (i : Nat), x])) h'' s.heap.objs.size (.tup [.int (i : Nat), x]) :=
      ⟨by show 2 ≤ sizeLine; decide, [.int i tk, x'], .cons ⟨_, rfl⟩ (.cons ru .nil), ⟨_, hT2, rfl, _, rfl⟩⟩
    have I1 : Inv X pins σ (upd H s.heap.objs.size (.tup [.int (i : Nat), x])) { s with heap := h'', toks := tk + 1 } :=
      I.turnedNew (ch := [e, it]) (fun b ob hb q => (sb.2 b (fun z => hb (by simp [z]))).trans (hk b ob (fun z => hb (by simp [z])) (fun z => hb (by simp [z])) q)) hf (Nat.le_refl _) new
    refine ⟨.ref s.heap.objs.size, _, I1, rfl, ⟨_, x, rfl, I.hok.fresh (Nat.le_refl _), rfl, fun ys hy => by rw [I.tuple_inj hy hq]; exact hx⟩, ⟨⟨x', ?_⟩, hit'.1.at fun o q => (sb.2 it (Ne.symm hne)).trans q, hne, hn2, hn3⟩, fun b hb => ?_⟩
    · have e1 : ((i + 1 : Nat) : Int) = (i : Int) + 1 := by omega
      rw [e1]; exact he'
    · have hb' : b < s.heap.objs.size := by
        have e' : b = e ∨ b = it := by simpa using hb
        rcases e' with z | z
        · rw [z]; exact hel
        · rw [z]; exact hil
      rw [upd_ne (Nat.ne_of_lt hb')]
      exact (hf b hb).1
  done := by
    intro X hP hw hK hc i pins s σ H E I hf st hg
    subst hP hw hK
    obtain ⟨⟨old, he⟩, hit, hne, hn2, hn3⟩ := st
    obtain ⟨xs, hq, hx⟩ := hg
    obtain ⟨its, rv, p, hz⟩ := I.tuple hq
    obtain ⟨f0, f1, f2, f3, f4, f5⟩ := hf it (by simp)
    have hl := rv.length
    have D := Draws.tuple (prog := X.prog) (w := X.w) (A := X.A.in1) (show X.A.in1.handled = none from I.ok.hd hc) it a hn2 its.toArray
    have ei : i = its.toArray.size := by
      simp
      omega
    rw [ei] at hit
    exact wpAny_pyNext_enum_endD D he ⟨hit, p⟩ fun h' eb => ⟨rfl, I.turned (t' := s.toks) (fun b o hb q => eb b o hb q) f0 f1 f3 f4 f5⟩
  self := fun A i s Q E st h => let ⟨⟨_, he⟩, _⟩ := st; wpAny_pyIter_enum he h
def iEnumT (K : PySem.W.Frag) (ta : TA) : TI := fun σ H R => ta σ H fun vs H1 => ∃ a xs, vs = [.ref a] ∧ SqT K H1 a xs ∧ R (Itet K a) H1
theorem pi_enumT {X : Cx} {e : Expr} {ta : TA} {p pos tpos : Pos} {elts : List Expr} {kk : Nat} (hg : Gl X "enumerate") (hm : X.mg "enumerate" = none) (ha : PA X [e] ta) (hs : starEach [e] X.env = [(false, eval e X.env)] := by rfl) :
    PI X (.Tuple elts kk tpos) (.Call (.Name "enumerate" p) [e] [] pos) (iEnumT X.K ta) := by
  refine ⟨fun pins s σ H R I h => ?_⟩
  refine Call_ (ld_blt I hg hm boot_enumerate (PyProof.Rows.callWith_type1 (thn (ha.run pos pins s σ H _ I h) fun us s1 ⟨vs, H1, I1, r1, q1⟩ => ?_) hs rfl))
  obtain ⟨a, xs, ex, hq, q⟩ := q1
  subst ex
  cases r1 with
  | cons r rr =>
    cases rr
    cases r
    obtain ⟨its, rv, p', hz⟩ := I1.tuple hq
    have hal : a < s1.heap.objs.size := by
      obtain ⟨o, ho, _⟩ := id p'
      exact Heap.lt_size ho
    refine call_enumerate_tuple (items := its.toArray) p' fun h' he hit hsz hk => wpAny_pyIter_enum he ?_
    have I2 : Inv X pins σ H1 { s1 with heap := h' } := I1.kept (t' := s1.toks) hk
    refine ⟨s1.heap.objs.size + 1, [s1.heap.objs.size + 1, s1.heap.objs.size], _, _, H1, rfl, I2, turn_enumT a (s1.heap.objs.size + 1) s1.heap.objs.size, ⟨⟨.none, he⟩, hit, Nat.succ_ne_self _, Nat.ne_of_lt hal, Nat.ne_of_lt (Nat.lt_succ_of_lt hal)⟩, fun b hb => ?_, q⟩
    have e' : b = s1.heap.objs.size + 1 ∨ b = s1.heap.objs.size := by simpa using hb
    have hle : s1.heap.objs.size ≤ b := by
      rcases e' with z | z
      · rw [z]; exact Nat.le_add_right _ _
      · rw [z]; exact Nat.le_refl _
    exact I1.fpOk hle (I1.hok.fresh hle)
end LvG

/-! The text by places; what every def's proof leans on. -/
namespace Lv
open PySem PySem.Spec PyProof.Rows L2 LamX NdefX LvL LvG LvM
def top (i : Nat) : Stmt := PySem.Challenge.pw_levellers_k29_whole_rows_and_rings.main.body.getD i (.Pass ⟨0, 0, 0, 0⟩)
/-- a def of the text: where it stands, how it binds -/
structure Got (K : PySem.W.Frag) (mg : Str → Option Value) (x : Str) (st : Stmt) (ps : List Str) (f : Addr) (fd : FuncData) : Prop where
  F : Fun K x x st f fd
  b : Binds K fd ps []
  g : mg x = some (.ref f)
/-- a def that keeps its promise -/
structure Dfn (P : Program) (w : World) (K : PySem.W.Frag) (mg : Str → Option Value) (base : Heap) (k : Nat) (x : Str) (ps : List Str) (sp : Sp) : Prop where
  ex : ∃ (f : Addr) (fd : FuncData), mg x = some (.ref f) ∧ FnOk P w K mg base CX0 k f fd ps sp ∧ PySem.W.keepIn K (.ref f) = true ∧ Binds K fd ps []
section
variable {P : Program} {w : World} {K : PySem.W.Frag} {mg : Str → Option Value} {base : Heap} {k : Nat} {x : Str} {ps : List Str} {sp : Sp}
theorem Got.dfn {st : Stmt} {f : Addr} {fd : FuncData} (G : Got K mg x st ps f fd) (ok : FnOk P w K mg base CX0 k f fd ps sp) : Dfn P w K mg base k x ps sp := ⟨f, fd, G.g, ok, G.F.kp, G.b⟩
theorem Dfn.mono {j : Nat} (D : Dfn P w K mg base j x ps sp) (h : j ≤ k) : Dfn P w K mg base k x ps sp := by
  obtain ⟨f, fd, g, ok, kp, b⟩ := D.ex
  exact ⟨f, fd, g, ok.mono h, kp, b⟩
end
theorem pe_cd {X : Cx} {k j : Nat} {x : Str} {ps : List Str} {sp : Sp} {p pos : Pos} {e : Expr} {es : List Expr} {t : TA} (D : Dfn X.prog X.w X.K X.mg X.base j x ps sp) (hr : Room k X.A) (hj : j ≤ k) (hg : Gl X x) (ha : PA X (e :: es) t)
    (hdb : (x == ("__debug__" : Str)) = false := by decide) (he : starEach (e :: es) X.env = (false, eval e X.env) :: starEach es X.env := by rfl) (hpl : (backTo pos (starEach es X.env)).any (·.1) = false := by rfl) :
    PE X (.Call (.Name x p) (e :: es) [] pos) (tCall sp [] E0 t) := by
  obtain ⟨f, fd, g, ok, kp, b⟩ := D.ex
  exact pe_call ok (hr.mono hj) hg g kp b .nil pass0 ha hdb he hpl
/-- the built-ins' names are free, MOST_ROOF and MOST_ROW stand -/
structure Txt (mg : Str → Option Value) : Prop where
  range : mg "range" = none
  isinstance : mg "isinstance" = none
  int : mg "int" = none
  bool : mg "bool" = none
  str : mg "str" = none
  len : mg "len" = none
  tuple : mg "tuple" = none
  list : mg "list" = none
  enumerate : mg "enumerate" = none
  sum : mg "sum" = none
  abs : mg "abs" = none
  dict : mg "dict" = none
  sorted : mg "sorted" = none
  max : mg "max" = none
  min : mg "min" = none
  roof : ∃ t, mg "MOST_ROOF" = some (.int 9 t)
  row : ∃ t, mg "MOST_ROW" = some (.int 40 t)
theorem same_upd {H : Hp} {p : Addr} {o : HO} (h : H p = none) : Same H (upd H p o) := fun b x e => by
  rw [upd_ne (ne_of_none e h)]
  exact e
theorem Same.tup {H H' : Hp} {a : Addr} {xs : List V} (e : Same H H') (h : H a = some (.tup xs)) : H' a = some (.tup xs) := e _ _ h
theorem walk_enumT {K : PySem.W.Frag} {a : Addr} {xs : List V} : Walk (Itet K a) xs.length (fun H => SqT K H a xs) (YPair (fun i => some (.int (i : Nat))) (fun i => xs[i]?)) := by
  refine ⟨fun i _ hi q => ⟨xs, xs[i], q, by simp [hi]⟩, fun _ q => ⟨xs, q, rfl⟩, fun i H v H' _ q y => ?_⟩
  obtain ⟨T, x, h1, h2, h3, h4⟩ := y
  exact ⟨T, .int (i : Nat), x, h1, h2, h3, rfl, h4 xs q⟩
/-- the i-th of a list of ints -/
theorem vint_at {ns : List Int} {i : Nat} {x : V} (h : (ns.map V.int)[i]? = some x) : ∃ n, ns[i]? = some n ∧ x = V.int n := by
  rw [List.getElem?_map] at h
  cases e : ns[i]? with
  | none => rw [e] at h; cases h
  | some n => rw [e] at h; exact ⟨n, rfl, (Option.some.inj h).symm⟩
theorem at_vint {ns : List Int} {i : Nat} {n : Int} (h : ns[i]? = some n) : (ns.map V.int)[i]? = some (V.int n) := by
  rw [List.getElem?_map, h]
  rfl
theorem at_getD {ns : List Int} {i : Nat} (h : i < ns.length) : ns[i]? = some (LvM.at_ ns i) := by
  unfold LvM.at_
  rw [List.getD_eq_getElem?_getD, List.getElem?_eq_getElem h]
  rfl
theorem getD_of {ns : List Int} {i : Nat} {n : Int} (h : ns[i]? = some n) : LvM.at_ ns i = n := by
  unfold LvM.at_
  rw [List.getD_eq_getElem?_getD, h]
  rfl
/-- the heights hs stand at a -/
abbrev HtAt (H : Hp) (a : Addr) (hs : List Int) : Prop := H a = some (.tup (hs.map V.int))
abbrev sIsIn : Stmt := top 6
abbrev sNeedRoof : Stmt := top 9
abbrev sNeedHeights : Stmt := top 10
abbrev sStepsIn : Stmt := top 12
abbrev sNeedMany : Stmt := top 15
abbrev sNeedRow : Stmt := top 16
abbrev sNeedRows : Stmt := top 17
abbrev sFits : Stmt := top 18
abbrev sEdgesOf : Stmt := top 19
abbrev sComesOn : Stmt := top 20
abbrev sRowFewest : Stmt := top 21
abbrev sRingFewest : Stmt := top 22
abbrev sIsSoft : Stmt := top 23
abbrev sGrown : Stmt := top 24
abbrev sRowCome : Stmt := top 25
abbrev sRingCome : Stmt := top 26
abbrev sRowGentle : Stmt := top 27
abbrev sRingGentle : Stmt := top 28
abbrev sTaken : Stmt := top 30
abbrev sMany : Stmt := top 31
abbrev sRow : Stmt := top 32
abbrev sHeights : Stmt := top 33
abbrev sStep : Stmt := top 34
abbrev sBeside : Stmt := top 35
abbrev sDeeds : Stmt := top 36
abbrev sAfter : Stmt := top 37
abbrev sFrom : Stmt := top 38
abbrev sPick : Stmt := top 39
abbrev sThere : Stmt := top 40
abbrev sAlike : Stmt := top 41
abbrev sEvery : Stmt := top 42
abbrev sSteep : Stmt := top 43
abbrev sLaw : Stmt := top 44
end Lv

namespace Lv
open PySem PySem.Spec PyProof.Rows L2 LamX NdefX LvL LvG LvM
section
variable {P : Program} {w : World} {K : PySem.W.Frag} {mg : Str → Option Value} {base : Heap}
/-! ### is_in -/
theorem scIsIn : FnScope ["value", "least", "most"] ["value", "least", "most"] (defScope sIsIn) := ⟨rfl, rfl, rfl, by decide +kernel, rfl, by decide +kernel, by decide +kernel⟩
def spIsIn : Sp := fun vs H Q _ => ∃ a b c : Int, vs = [.int a, .int b, .int c] ∧ b ≤ a ∧ a ≤ c ∧ Q (.bl true) H
theorem ok_is_in {f : Addr} {fd : FuncData} (G : Got K mg "is_in" sIsIn ["value", "least", "most"] f fd) (T : Txt mg) : Dfn P w K mg base 1 "is_in" ["value", "least", "most"] spIsIn := by
  refine G.dfn (G.F.ok scIsIn (fun vs H Q E h => ?_) (fun cdv A outer s H vs Q E hr h => ?_))
  · obtain ⟨a, b, c, rfl, _⟩ := h
    rfl
  · obtain ⟨a, b, c, rfl, h1, h2, q⟩ := h
    refine ⟨_, pss_one (ps_ret (pe_and (pe_callB call_isi (by rfl) T.isinstance (by decide +kernel) (pa_cons (pv 0) (pa_cons (pe_bltn (v := .ty "int") (by rfl) T.int (by decide +kernel) rfl) pa_nil)))
      (pe_and (pe_not (pe_callB call_isi (by rfl) T.isinstance (by decide +kernel) (pa_cons (pv 0) (pa_cons (pe_bltn (v := .ty "bool") (by rfl) T.bool (by decide +kernel) rfl) pa_nil))))
      (pe_one (pe_chain op_le op_le (pv 1) (pv 0) (pv 2)))))), ?_⟩
    refine ⟨_, rfl, _, _, _, _, true, rfl, .ty "int", .base (.int a), kit_ty (by decide +kernel), true, rfl, ?_⟩
    refine iteT ?_
    refine ⟨_, rfl, _, _, _, _, false, rfl, .ty "bool", .base (.int a), kit_ty (by decide +kernel), false, rfl, true, rfl, ?_⟩
    refine iteT ?_
    refine ⟨_, rfl, _, rfl, _, _, rfl, rfl, _, rfl, ?_⟩
    rw [decide_eq_true h1]
    refine iteT ?_
    refine ⟨_, rfl, _, _, rfl, rfl, ?_⟩
    show Q (.bl (decide (a ≤ c))) H
    rw [decide_eq_true h2]
    exact q
/-! ### need_roof, need_many -/
theorem scNeedRoof : FnScope ["roof"] ["roof"] (defScope sNeedRoof) := ⟨rfl, rfl, rfl, by decide +kernel, rfl, by decide +kernel, by decide +kernel⟩
def spNeedRoof : Sp := fun vs H Q _ => ∃ a : Int, vs = [.int a] ∧ 1 ≤ a ∧ a ≤ 9 ∧ Q .non H
theorem ok_need_roof {f : Addr} {fd : FuncData} (G : Got K mg "need_roof" sNeedRoof ["roof"] f fd) (T : Txt mg) (D1 : Dfn P w K mg base 1 "is_in" ["value", "least", "most"] spIsIn) : Dfn P w K mg base 2 "need_roof" ["roof"] spNeedRoof := by
  refine G.dfn (G.F.ok scNeedRoof (fun vs H Q E h => ?_) (fun cdv A outer s H vs Q E hr h => ?_))
  · obtain ⟨a, rfl, _⟩ := h
    rfl
  · obtain ⟨a, rfl, h1, h2, q⟩ := h
    obtain ⟨t, hm⟩ := T.roof
    refine ⟨_, pss_one (ps_if (pt_not (pt_val (pe_cd D1 hr (by decide) (by rfl) (pa_cons (pv 0) (pa_cons pe_int (pa_cons (pe_glob (v := .int 9) rfl hm ⟨_, rfl⟩) pa_nil)))))) pss_never pss_nil), ?_⟩
    refine ⟨_, rfl, _, _, _, rfl, h1, h2, true, rfl, ?_⟩
    exact iteF q
theorem scNeedMany : FnScope ["many", "least"] ["many", "least"] (defScope sNeedMany) := ⟨rfl, rfl, rfl, by decide +kernel, rfl, by decide +kernel, by decide +kernel⟩
def spNeedMany : Sp := fun vs H Q _ => ∃ a b : Int, vs = [.int a, .int b] ∧ b ≤ a ∧ a ≤ 40 ∧ Q .non H
theorem ok_need_many {f : Addr} {fd : FuncData} (G : Got K mg "need_many" sNeedMany ["many", "least"] f fd) (T : Txt mg) (D1 : Dfn P w K mg base 1 "is_in" ["value", "least", "most"] spIsIn) : Dfn P w K mg base 2 "need_many" ["many", "least"] spNeedMany := by
  refine G.dfn (G.F.ok scNeedMany (fun vs H Q E h => ?_) (fun cdv A outer s H vs Q E hr h => ?_))
  · obtain ⟨a, b, rfl, _⟩ := h
    rfl
  · obtain ⟨a, b, rfl, h1, h2, q⟩ := h
    obtain ⟨t, hm⟩ := T.row
    refine ⟨_, pss_one (ps_if (pt_not (pt_val (pe_cd D1 hr (by decide) (by rfl) (pa_cons (pv 0) (pa_cons (pv 1) (pa_cons (pe_glob (v := .int 40) rfl hm ⟨_, rfl⟩) pa_nil)))))) pss_never pss_nil), ?_⟩
    refine ⟨_, rfl, _, rfl, _, _, _, rfl, h1, h2, true, rfl, ?_⟩
    exact iteF q
/-! ### need_heights -/
theorem scNeedHeights : FnScope ["many", "roof", "heights", "index", "one"] ["many", "roof", "heights"] (defScope sNeedHeights) := ⟨rfl, rfl, rfl, by decide +kernel, rfl, by decide +kernel, by decide +kernel⟩
def spNeedHeights : Sp := fun vs H Q _ => ∃ (m r : Int) (a : Addr) (hs : List Int), vs = [.int m, .int r, .ref a] ∧ HtAt H a hs ∧ (hs.length : Int) = m ∧ (∀ x ∈ hs, 0 ≤ x ∧ x ≤ r) ∧ ∀ H', Same H H' → Q .non H'
theorem ok_need_heights {f : Addr} {fd : FuncData} (G : Got K mg "need_heights" sNeedHeights ["many", "roof", "heights"] f fd) (T : Txt mg) (D1 : Dfn P w K mg base 1 "is_in" ["value", "least", "most"] spIsIn) : Dfn P w K mg base 2 "need_heights" ["many", "roof", "heights"] spNeedHeights := by
  refine G.dfn (G.F.ok scNeedHeights (fun vs H Q E h => ?_) (fun cdv A outer s H vs Q E hr h => ?_))
  · obtain ⟨m, r, a, hs, rfl, _⟩ := h
    rfl
  · obtain ⟨m, r, a, hs, rfl, ha, hm, hb, q⟩ := h
    refine ⟨_, pss_cons (ps_if (PW.pt (pw_or (pt_not (pt_val (pe_callB call_isi (by rfl) T.isinstance (by decide +kernel) (pa_cons (pv 2) (pa_cons (pe_bltn (v := .ty "tuple") (by rfl) T.tuple (by decide +kernel) rfl) pa_nil)))))
        (pw_or1 (pt_cmpR op_ne (pe_callB call_len_seq (by rfl) T.len PySem.boot_len (pa_cons (pv 2) pa_nil)) (pv 0) (nomark _))))) pss_never pss_nil)
      (pss_one (ps_for PassesOwn.never rfl (pi_enumT (by rfl) T.enumerate (pa_cons (pv 2) pa_nil))
        (pg_tup rfl (pgs_cons (pg_name (i := 3) scNeedHeights.nd rfl (.inl rfl)) (pgs_cons (pg_name (i := 4) scNeedHeights.nd rfl (.inl rfl)) pgs_nil)))
        (pss_one (ps_if (pt_not (pt_val (pe_cd D1 hr (by decide) (by rfl) (pa_cons (pv 4) (pa_cons pe_int (pa_cons (pv 1) pa_nil)))))) pss_never pss_nil)))), ?_⟩
    refine ⟨_, rfl, _, _, _, _, true, rfl, .ty "tuple", .base (.tup ha), kit_ty (by decide +kernel), true, rfl, ?_⟩
    refine iteF ?_
    refine ⟨_, rfl, a, _, rfl, .inr (SqT.of ha), _, rfl, rfl, _, rfl, ?_⟩
    have e1 : (V.int ((hs.map V.int).length : Nat)) = V.int m := by rw [List.length_map, hm]
    refine iteNS e1 ?_
    refine ⟨.ref a, rfl, a, _, rfl, SqT.of ha, for_it (walk_enumT (K := K) (a := a) (xs := hs.map V.int)) (fun i σ H' => ∃ y3 y4, σ = [some (.int m), some (.int r), some (.ref a), y3, y4] ∧ Same H H')
      ⟨none, none, rfl, Same.refl H⟩ (fun i σ H' _ ⟨_, _, _, s1⟩ => SqT.of (s1 _ _ ha)) ?_ ?_⟩
    · rintro i x σ H1 H2 hi ⟨y3, y4, rfl, s1⟩ ⟨t, x1, x2, rfl, nt, rfl, e1, e2⟩
      cases e1
      obtain ⟨n, hn, rfl⟩ := vint_at e2
      refine ⟨t, _, rfl, SqT.of upd_same, rfl, _, _, rfl, _, [], rfl, rfl, ?_⟩
      have hn2 := hb n (List.mem_of_getElem? hn)
      refine ⟨_, rfl, _, rfl, _, _, _, rfl, hn2.1, hn2.2, true, rfl, ?_⟩
      exact iteF ⟨_, _, rfl, s1.trans (same_upd nt)⟩
    · rintro σ H' ⟨y3, y4, rfl, s1⟩
      exact q H' s1
/-! ### need_row, need_rows -/
theorem scNeedRow : FnScope ["many", "least", "roof", "heights"] ["many", "least", "roof", "heights"] (defScope sNeedRow) := ⟨rfl, rfl, rfl, by decide +kernel, rfl, by decide +kernel, by decide +kernel⟩
/-- a row's or ring's arguments are right -/
structure RowOk (m l r : Int) (H : Hp) (a : Addr) (hs : List Int) : Prop where
  at_ : HtAt H a hs
  lo : l ≤ m
  hi : m ≤ 40
  r1 : 1 ≤ r
  r9 : r ≤ 9
  len : (hs.length : Int) = m
  bd : ∀ x ∈ hs, 0 ≤ x ∧ x ≤ r
def spNeedRow : Sp := fun vs H Q _ => ∃ (m l r : Int) (a : Addr) (hs : List Int), vs = [.int m, .int l, .int r, .ref a] ∧ RowOk m l r H a hs ∧ ∀ H', Same H H' → Q .non H'
theorem ok_need_row {f : Addr} {fd : FuncData} (G : Got K mg "need_row" sNeedRow ["many", "least", "roof", "heights"] f fd) (D1 : Dfn P w K mg base 2 "need_many" ["many", "least"] spNeedMany)
    (D2 : Dfn P w K mg base 2 "need_roof" ["roof"] spNeedRoof) (D3 : Dfn P w K mg base 2 "need_heights" ["many", "roof", "heights"] spNeedHeights) : Dfn P w K mg base 3 "need_row" ["many", "least", "roof", "heights"] spNeedRow := by
  refine G.dfn (G.F.ok scNeedRow (fun vs H Q E h => ?_) (fun cdv A outer s H vs Q E hr h => ?_))
  · obtain ⟨m, l, r, a, hs, rfl, _⟩ := h
    rfl
  · obtain ⟨m, l, r, a, hs, rfl, R, q⟩ := h
    refine ⟨_, pss_cons (ps_expr (pe_cd D1 hr (by decide) (by rfl) (pa_cons (pv 0) (pa_cons (pv 1) pa_nil))))
      (pss_cons (ps_expr (pe_cd D2 hr (by decide) (by rfl) (pa_cons (pv 2) pa_nil)))
      (pss_one (ps_expr (pe_cd D3 hr (by decide) (by rfl) (pa_cons (pv 0) (pa_cons (pv 2) (pa_cons (pv 3) pa_nil))))))), ?_⟩
    refine ⟨_, rfl, _, rfl, _, _, rfl, R.lo, R.hi, ?_⟩
    refine ⟨_, rfl, _, rfl, R.r1, R.r9, ?_⟩
    exact ⟨_, rfl, _, rfl, _, rfl, _, _, a, hs, rfl, R.at_, R.len, R.bd, fun H' s1 => q H' s1⟩
theorem scNeedRows : FnScope ["many", "least", "roof", "one", "other"] ["many", "least", "roof", "one", "other"] (defScope sNeedRows) := ⟨rfl, rfl, rfl, by decide +kernel, rfl, by decide +kernel, by decide +kernel⟩
def spNeedRows : Sp := fun vs H Q _ => ∃ (m l r : Int) (a b : Addr) (hs ks : List Int), vs = [.int m, .int l, .int r, .ref a, .ref b] ∧ RowOk m l r H a hs ∧ RowOk m l r H b ks ∧ ∀ H', Same H H' → Q .non H'
theorem ok_need_rows {f : Addr} {fd : FuncData} (G : Got K mg "need_rows" sNeedRows ["many", "least", "roof", "one", "other"] f fd) (D1 : Dfn P w K mg base 3 "need_row" ["many", "least", "roof", "heights"] spNeedRow)
    (D3 : Dfn P w K mg base 2 "need_heights" ["many", "roof", "heights"] spNeedHeights) : Dfn P w K mg base 4 "need_rows" ["many", "least", "roof", "one", "other"] spNeedRows := by
  refine G.dfn (G.F.ok scNeedRows (fun vs H Q E h => ?_) (fun cdv A outer s H vs Q E hr h => ?_))
  · obtain ⟨m, l, r, a, b, hs, ks, rfl, _⟩ := h
    rfl
  · obtain ⟨m, l, r, a, b, hs, ks, rfl, R, R2, q⟩ := h
    refine ⟨_, pss_cons (ps_expr (pe_cd D1 hr (by decide) (by rfl) (pa_cons (pv 0) (pa_cons (pv 1) (pa_cons (pv 2) (pa_cons (pv 3) pa_nil))))))
      (pss_one (ps_expr (pe_cd D3 hr (by decide) (by rfl) (pa_cons (pv 0) (pa_cons (pv 2) (pa_cons (pv 4) pa_nil)))))), ?_⟩
    refine ⟨_, rfl, _, rfl, _, rfl, _, rfl, _, _, _, a, hs, rfl, R, fun H1 s1 => ?_⟩
    exact ⟨_, rfl, _, rfl, _, rfl, _, _, b, ks, rfl, s1 _ _ R2.at_, R2.len, R2.bd, fun H' s2 => q H' (s1.trans s2)⟩
/-! ### fits, is_soft -/
theorem scFits : FnScope ["low", "high", "from_low", "from_high"] ["low", "high", "from_low", "from_high"] (defScope sFits) := ⟨rfl, rfl, rfl, by decide +kernel, rfl, by decide +kernel, by decide +kernel⟩
def spFits : Sp := fun vs H Q _ => ∃ a b c d : Int, vs = [.int a, .int b, .int c, .int d] ∧ Q (.bl (fitsB a b c d)) H
theorem ok_fits {f : Addr} {fd : FuncData} (G : Got K mg "fits" sFits ["low", "high", "from_low", "from_high"] f fd) : Dfn P w K mg base 1 "fits" ["low", "high", "from_low", "from_high"] spFits := by
  refine G.dfn (G.F.ok scFits (fun vs H Q E h => ?_) (fun cdv A outer s H vs Q E hr h => ?_))
  · obtain ⟨a, b, c, d, rfl, _⟩ := h
    rfl
  · obtain ⟨a, b, c, d, rfl, q⟩ := h
    refine ⟨_, pss_cons (ps_if (pt_cmpR op_gt (pe_op op_sub (pv 1) (pv 0)) pe_int (nomark _)) (pss_one (ps_ret (pe_and (pe_cmpR op_le (pv 2) (pv 0) (nomark _)) (pe_one (pe_cmpR op_le (pv 1) (pv 3) (nomark _)))))) pss_nil)
      (pss_cons (ps_if (pt_cmpR op_gt (pe_op op_sub (pv 0) (pv 1)) pe_int (nomark _)) (pss_one (ps_ret (pe_and (pe_cmpR op_le (pv 3) (pv 1) (nomark _)) (pe_one (pe_cmpR op_le (pv 0) (pv 2) (nomark _)))))) pss_nil)
      (pss_one (ps_ret pe_bl))), ?_⟩
    refine ⟨_, rfl, _, rfl, _, _, rfl, rfl, _, _, rfl, rfl, _, rfl, ite2 (fun e => ?_) (fun e => ?_)⟩
    · have e : b - a > 1 := of_decide_eq_true e
      unfold fitsB at q
      rw [if_pos e] at q
      refine ⟨_, rfl, _, rfl, _, _, rfl, rfl, _, rfl, ite2 (fun e1 => ?_) (fun e1 => ?_)⟩
      · rw [e1, Bool.true_and] at q
        exact ⟨_, rfl, _, rfl, _, _, rfl, rfl, q⟩
      · rw [Bool.not_eq_true] at e1
        rw [e1, Bool.false_and] at q
        exact q
    · have e : ¬ b - a > 1 := fun z => e (decide_eq_true z)
      refine ⟨_, rfl, _, rfl, _, _, rfl, rfl, _, _, rfl, rfl, _, rfl, ite2 (fun e2 => ?_) (fun e2 => ?_)⟩
      · have e2 : a - b > 1 := of_decide_eq_true e2
        unfold fitsB at q
        rw [if_neg e, if_pos e2] at q
        refine ⟨_, rfl, _, rfl, _, _, rfl, rfl, _, rfl, ite2 (fun e1 => ?_) (fun e1 => ?_)⟩
        · rw [e1, Bool.true_and] at q
          exact ⟨_, rfl, _, rfl, _, _, rfl, rfl, q⟩
        · rw [Bool.not_eq_true] at e1
          rw [e1, Bool.false_and] at q
          exact q
      · have e2 : ¬ a - b > 1 := fun z => e2 (decide_eq_true z)
        unfold fitsB at q
        rw [if_neg e, if_neg e2] at q
        exact q
theorem scIsSoft : FnScope ["low", "high"] ["low", "high"] (defScope sIsSoft) := ⟨rfl, rfl, rfl, by decide +kernel, rfl, by decide +kernel, by decide +kernel⟩
def softB (a b : Int) : Bool := decide ((if a - b < 0 then -(a - b) else a - b) ≤ 1)
theorem ok_is_soft {f : Addr} {fd : FuncData} (G : Got K mg "is_soft" sIsSoft ["low", "high"] f fd) (T : Txt mg) : Dfn P w K mg base 1 "is_soft" ["low", "high"] (spB softB) := by
  refine G.dfn (G.F.ok scIsSoft (fun vs H Q E h => ?_) (fun cdv A outer s H vs Q E hr h => ?_))
  · obtain ⟨a, b, rfl, _⟩ := h
    rfl
  · obtain ⟨a, b, rfl, q⟩ := h
    refine ⟨_, pss_one (ps_ret (pe_cmpR op_le (pe_callB call_abs (by rfl) T.abs (by decide +kernel) (pa_cons (pe_op op_sub (pv 0) (pv 1)) pa_nil)) pe_int (nomark _))), ?_⟩
    exact ⟨_, rfl, _, rfl, _, _, rfl, rfl, _, rfl, _, _, rfl, rfl, q⟩
end
end Lv

namespace Lv
open PySem PySem.Spec PyProof.Rows L2 LamX NdefX LvL LvG LvM
/-! ### mathematics: sums, edges -/
def absI (x : Int) : Int := if x < 0 then -x else x
theorem absI_nat (x : Int) : absI x = (x.natAbs : Int) := by
  unfold absI
  split <;> omega
theorem sum_append_one (l : List Int) (x : Int) : (l ++ [x]).sum = l.sum + x := by
  rw [List.sum_append]
  simp
theorem dist_sum : ∀ (a b : List Int), a.length = b.length → ((List.range a.length).map fun k => absI (LvM.at_ a k - LvM.at_ b k)).sum = (dist a b : Int)
  | [], [], _ => rfl
  | [], _ :: _, e => by simp at e
  | _ :: _, [], e => by simp at e
  | x :: a, y :: b, e => by
    have ih := dist_sum a b (by simpa using e)
    rw [List.length_cons, List.range_succ_eq_map, List.map_cons, List.sum_cons, List.map_map]
    have e1 : ((List.range a.length).map ((fun k => absI (LvM.at_ (x :: a) k - LvM.at_ (y :: b) k)) ∘ Nat.succ)) = (List.range a.length).map fun k => absI (LvM.at_ a k - LvM.at_ b k) := rfl
    rw [e1, ih, absI_nat]
    show ((x - y).natAbs : Int) + (dist a b : Int) = (((x - y).natAbs + dist a b : Nat) : Int)
    omega
def edgesL (n : Nat) (ring : Bool) : Ed := (List.range (n - 1)).map (fun k => (k, k + 1)) ++ if ring then [(0, n - 1)] else []
theorem edgesL_in {n : Nat} (ring : Bool) (hn : 1 ≤ n) : EdIn (edgesL n ring) n := fun e he => by
  unfold edgesL at he
  rcases List.mem_append.mp he with h | h
  · obtain ⟨k, hk, rfl⟩ := List.mem_map.mp h
    have := List.mem_range.mp hk
    exact ⟨by show k < n; omega, by show k + 1 < n; omega⟩
  · cases ring with
    | true =>
      have : e = (0, n - 1) := by simpa using h
      subst this
      exact ⟨by show 0 < n; omega, by show n - 1 < n; omega⟩
    | false => simp at h
theorem edgesL_len (n : Nat) (ring : Bool) : (edgesL n ring).length ≤ n + 1 := by
  unfold edgesL
  rw [List.length_append, List.length_map, List.length_range]
  cases ring <;> simp <;> omega
abbrev castE (E : Ed) : List (Int × Int) := E.map fun e => ((e.1 : Int), (e.2 : Int))
/-! ### lists of pairs of ints in the heap -/
def prV (p : Int × Int) : HO := .tup [.int p.1, .int p.2]
structure PrAt (H : Hp) (rs : List Addr) (ps : List (Int × Int)) : Prop where
  len : rs.length = ps.length
  at_ : ∀ (j : Nat) (r : Addr) (p : Int × Int), rs[j]? = some r → ps[j]? = some p → H r = some (prV p)
theorem PrAt.nil {H : Hp} : PrAt H [] [] := ⟨rfl, fun j r p h => by simp at h⟩
theorem PrAt.same {H H' : Hp} {rs : List Addr} {ps : List (Int × Int)} (h : PrAt H rs ps) (s : Same H H') : PrAt H' rs ps := ⟨h.len, fun j r p a b => s _ _ (h.at_ j r p a b)⟩
/-- another object than a tuple is written -/
theorem PrAt.upd {H : Hp} {D : Addr} {o : HO} {rs : List Addr} {ps : List (Int × Int)} (h : PrAt H rs ps) (hD : ∀ p, H D ≠ some (prV p)) : PrAt (L2.upd H D o) rs ps := ⟨h.len, fun j r p a b => by
  have q := h.at_ j r p a b
  rw [upd_ne (fun z => hD p (by rw [← z]; exact q))]
  exact q⟩
theorem PrAt.snoc {H : Hp} {rs : List Addr} {ps : List (Int × Int)} {r : Addr} {p : Int × Int} (h : PrAt H rs ps) (hr : H r = some (prV p)) : PrAt H (rs ++ [r]) (ps ++ [p]) := by
  refine ⟨by simp [h.len], fun j r2 p2 a b => ?_⟩
  have hl := h.len
  by_cases hj : j < rs.length
  · rw [List.getElem?_append_left hj] at a
    rw [List.getElem?_append_left (by omega)] at b
    exact h.at_ j r2 p2 a b
  · rw [List.getElem?_append_right (by omega)] at a
    rw [List.getElem?_append_right (by omega)] at b
    have e : j - rs.length = 0 := by
      have := (List.getElem?_eq_some_iff.mp a).1
      simp at this
      omega
    have e2 : j - ps.length = 0 := by omega
    rw [e] at a
    rw [e2] at b
    cases a
    cases b
    exact hr
theorem PrAt.append {H : Hp} {rs rs' : List Addr} {ps ps' : List (Int × Int)} (h : PrAt H rs ps) (h' : PrAt H rs' ps') : PrAt H (rs ++ rs') (ps ++ ps') := by
  refine ⟨by simp [h.len, h'.len], fun j r2 p2 a b => ?_⟩
  have hl := h.len
  by_cases hj : j < rs.length
  · rw [List.getElem?_append_left hj] at a
    rw [List.getElem?_append_left (by omega)] at b
    exact h.at_ j r2 p2 a b
  · rw [List.getElem?_append_right (by omega)] at a
    rw [List.getElem?_append_right (by omega)] at b
    rw [← hl] at b
    exact h'.at_ _ r2 p2 a b
def prD2 (p : Int × Int) : PyData := .tuple [.int p.1, .int p.2]
theorem dp_pr {K : PySem.W.Frag} {H : Hp} {r : Addr} {p : Int × Int} (h : H r = some (prV p)) : Dp K H (.ref r) (prD2 p) := .tup (SqT.of h) (.cons (.int _) (.cons (.int _) .nil))
theorem dp_prs {K : PySem.W.Frag} {H : Hp} : ∀ {rs : List Addr} {ps : List (Int × Int)}, PrAt H rs ps → DpAll K H (rs.map V.ref) (ps.map prD2)
  | [], [], _ => .nil
  | [], _ :: _, h => by have := h.len; simp at this
  | _ :: _, [], h => by have := h.len; simp at this
  | r :: rs, p :: ps, h => .cons (dp_pr (h.at_ 0 r p rfl rfl)) (dp_prs ⟨by have := h.len; simpa using this, fun j r2 p2 a b => h.at_ (j + 1) r2 p2 a b⟩)
theorem prD2_lay (z : Int × Int) : (prD2 z).canLay0 = true := by simp [prD2, PyData.canLay0, PyData.canLayAll0]
theorem prD2_depth (z : Int × Int) : (prD2 z).depth = 1 := by simp [prD2, PyData.depth, PyData.depthAll]
theorem prD2s_lay : ∀ zs : List (Int × Int), PyData.canLayAll0 (zs.map prD2) = true
  | [] => by simp [PyData.canLayAll0]
  | z :: zs => by simp [PyData.canLayAll0, prD2_lay z, prD2s_lay zs]
theorem prD2s_depth : ∀ zs : List (Int × Int), PyData.depthAll (zs.map prD2) ≤ 2
  | [] => by simp [PyData.depthAll]
  | z :: zs => by
    have h1 := prD2s_depth zs
    have h2 := prD2_depth z
    simp only [List.map_cons, PyData.depthAll]
    omega
theorem prD2_shaped (z : Int × Int) : SeqAt.shaped (prD2 z) = true := by
  have h := prD2_depth z
  show ((prD2 z).canLay0 && decide ((prD2 z).depth ≤ 64)) = true
  rw [Bool.and_eq_true]
  exact ⟨prD2_lay z, decide_eq_true (by omega)⟩
theorem prD2s_shaped (zs : List (Int × Int)) : SeqAt.shaped (.list (zs.map prD2)) = true := by
  have h1 := prD2s_depth zs
  have h2 : PyData.depth (.list (zs.map prD2)) ≤ 64 := by
    simp only [PyData.depth]
    omega
  show (PyData.canLay0 (.list (zs.map prD2)) && decide (PyData.depth (.list (zs.map prD2)) ≤ 64)) = true
  rw [Bool.and_eq_true]
  exact ⟨by simp only [PyData.canLay0]; exact prD2s_lay zs, decide_eq_true h2⟩
theorem prD2t_shaped (zs : List (Int × Int)) : SeqAt.shaped (.tuple (zs.map prD2)) = true := by
  have h1 := prD2s_depth zs
  have h2 : PyData.depth (.tuple (zs.map prD2)) ≤ 64 := by
    simp only [PyData.depth]
    omega
  show (PyData.canLay0 (.tuple (zs.map prD2)) && decide (PyData.depth (.tuple (zs.map prD2)) ≤ 64)) = true
  rw [Bool.and_eq_true]
  exact ⟨by simp only [PyData.canLay0]; exact prD2s_lay zs, decide_eq_true h2⟩
theorem eqv_nil : ∀ zs : List (Int × Int), PyData.eqv (.list (zs.map prD2)) (.list []) = decide (zs = [])
  | [] => by simp [PyData.eqv, PyData.eqvAll]
  | z :: zs => by simp [PyData.eqv, PyData.eqvAll]
theorem prD2_eqv (z w : Int × Int) : PyData.eqv (prD2 z) (prD2 w) = decide (z = w) := by
  obtain ⟨a, b⟩ := z
  obtain ⟨a', b'⟩ := w
  have e : PyData.eqv (prD2 (a, b)) (prD2 (a', b')) = ((a == a') && ((b == b') && true)) := by simp only [prD2, PyData.eqv, PyData.eqvAll]
  rw [e]
  by_cases h1 : a = a'
  · by_cases h2 : b = b'
    · subst h1
      subst h2
      simp
    · have q : (b == b') = false := beq_eq_false_iff_ne.mpr h2
      rw [q, Bool.false_and, Bool.and_false, decide_eq_false]
      intro z
      cases z
      exact h2 rfl
  · have q : (a == a') = false := beq_eq_false_iff_ne.mpr h1
    rw [q, Bool.false_and, decide_eq_false]
    intro z
    cases z
    exact h1 rfl
theorem tyes {σ : L2.St} {H : Hp} {Q : Bool → Hp → Prop} (h : Q true H) : tYes σ H Q := h
theorem small2000 {n : Nat} (h : n ≤ 2000) : n < sizeLine := Nat.lt_of_le_of_lt h (by decide)
section
variable {P : Program} {w : World} {K : PySem.W.Frag} {mg : Str → Option Value} {base : Heap}
/-! ### steps_in -/
theorem scStepsIn : FnScope ["one", "other", "place", "height"] ["one", "other"] (defScope sStepsIn) := ⟨rfl, rfl, rfl, by decide +kernel, rfl, by decide +kernel, by decide +kernel⟩
def spStepsIn : Sp := fun vs H Q _ => ∃ (a b : Addr) (hs ks : List Int), vs = [.ref a, .ref b] ∧ HtAt H a hs ∧ HtAt H b ks ∧ hs.length = ks.length ∧ hs.length ≤ 40 ∧ ∀ H', Same H H' → Q (.int (dist hs ks)) H'
theorem ok_steps_in {f : Addr} {fd : FuncData} (G : Got K mg "steps_in" sStepsIn ["one", "other"] f fd) (T : Txt mg) : Dfn P w K mg base 1 "steps_in" ["one", "other"] spStepsIn := by
  refine G.dfn (G.F.ok scStepsIn (fun vs H Q E h => ?_) (fun cdv A outer s H vs Q E hr h => ?_))
  · obtain ⟨a, b, hs, ks, rfl, _⟩ := h
    rfl
  · obtain ⟨a, b, hs, ks, rfl, ha, hb, hl, h40, q⟩ := h
    refine ⟨_, pss_one (ps_ret (pe_callB (cr_sum rfl) (by rfl) T.sum (by decide +kernel) (pa_cons (pe_lc (own := [("place", 2), ("height", 3)]) (g := gTup K 2 (gCons (gName 2) (gCons (gName 3) gNil))) (tt := tYes) rfl scStepsIn.nd (pi_enumT (by rfl) T.enumerate (pa_cons (pv 0) pa_nil))
      (blkOk_by (N := ["one", "other", "place", "height"]) (sc := defScope sStepsIn) (by decide +kernel))
      (fun _ _ _ _ _ => pg_tup rfl (pgs_cons (pg_name (i := 2) scStepsIn.nd rfl (.inl rfl)) (pgs_cons (pg_name (i := 3) scStepsIn.nd rfl (.inl rfl)) pgs_nil)))
      (fun _ _ _ _ _ => pts_nil)
      (fun _ _ _ _ _ => pe_callB call_abs (by rfl) T.abs (by decide +kernel) (pa_cons (pe_op op_sub (pv 3) (pe_ix (r := rIxT K) ix_tup (pv 1) (pv 2) (fun _ _ => rfl))) pa_nil))) pa_nil))), ?_⟩
    refine ⟨.ref a, rfl, a, _, rfl, SqT.of ha, fun D hD => lc_it (walk_enumT (K := K) (a := a) (xs := hs.map V.int))
      (fun i H' => Same H H' ∧ H' D = some (.lst (((List.range i).map fun k => absI (LvM.at_ hs k - LvM.at_ ks k)).map V.int))) ⟨same_upd hD, upd_same⟩ (fun i H' _ ⟨s1, _⟩ => SqT.of (s1 _ _ ha)) ?_ ?_⟩
    · rintro i x H1 H2 hi ⟨s1, eD⟩ ⟨t, x1, x2, rfl, nt, rfl, e1, e2⟩
      cases e1
      obtain ⟨n, hn, rfl⟩ := vint_at e2
      rw [List.length_map] at hi
      have s2 : Same H (upd H1 t (.tup [.int (i : Nat), .int n])) := s1.trans (same_upd nt)
      refine ⟨t, _, rfl, SqT.of upd_same, rfl, _, _, rfl, _, [], rfl, rfl, rfl, tyes (iteT ?_)⟩
      refine ⟨_, rfl, _, rfl, _, rfl, b, _, _, _, rfl, rfl, SqT.of (s2 _ _ hb), atI_nat (at_vint (at_getD (by omega))), _, _, rfl, rfl, _, rfl, ?_⟩
      have nDt : D ≠ t := ne_of_none eD nt
      refine ⟨_, (by rw [upd_ne nDt]; exact eD), ?_, ?_, ?_⟩
      · rw [List.length_map, List.length_map, List.length_range]
        exact small1000 (by omega)
      · exact fun c o e => by
          rw [upd_ne (ne_of_none e hD)]
          exact s2 _ _ e
      · rw [upd_same, List.range_succ, List.map_append, List.map_append, ← getD_of hn]
        rfl
    · rintro H' ⟨s1, eD⟩
      rw [List.length_map] at eD
      refine ⟨D, _, rfl, SqL.of eD, ?_⟩
      rw [dist_sum hs ks hl]
      exact q H' s1
/-! ### edges_of -/
theorem scEdgesOf : FnScope ["many", "is_ring", "k"] ["many", "is_ring"] (defScope sEdgesOf) := ⟨rfl, rfl, rfl, by decide +kernel, rfl, by decide +kernel, by decide +kernel⟩
def spEdgesOf : Sp := fun vs H Q _ => ∃ (n : Nat) (ring : Bool), vs = [.int n, .bl ring] ∧ 1 ≤ n ∧ n ≤ 40 ∧ ∀ (H' : Hp) (p : Addr) (rs : List Addr), Same H H' → H' p = some (.lst (rs.map V.ref)) → PrAt H' rs (castE (edgesL n ring)) → Q (.ref p) H'
theorem prV_ne (xs : List V) (p : Int × Int) : some (HO.lst xs) ≠ some (prV p) := fun z => by
  unfold prV at z
  cases z
theorem ok_edges_of {f : Addr} {fd : FuncData} (G : Got K mg "edges_of" sEdgesOf ["many", "is_ring"] f fd) (T : Txt mg) : Dfn P w K mg base 1 "edges_of" ["many", "is_ring"] spEdgesOf := by
  refine G.dfn (G.F.ok scEdgesOf (fun vs H Q E h => ?_) (fun cdv A outer s H vs Q E hr h => ?_))
  · obtain ⟨n, ring, rfl, _⟩ := h
    rfl
  · obtain ⟨n, ring, rfl, h1, h40, q⟩ := h
    refine ⟨_, pss_one (ps_ret (pe_op op_cat (pe_lc (own := [("k", 2)]) (g := gName 2) (tt := tYes) rfl scEdgesOf.nd (pi_range1 (by rfl) T.range (pa_cons (pe_op op_sub (pv 0) pe_int) pa_nil))
      (blkOk_by (N := ["many", "is_ring", "k"]) (sc := defScope sEdgesOf) (by decide +kernel))
      (fun _ _ _ _ _ => pg_name (i := 2) scEdgesOf.nd rfl (.inl rfl))
      (fun _ _ _ _ _ => pts_nil)
      (fun _ _ _ _ _ => pe_tup (pa_cons (pv 2) (pa_cons (pe_op op_add (pv 2) pe_int) pa_nil))))
      (pe_ifExp (pt_val (pv 1)) (pe_lst (pa_cons (pe_tup (pa_cons pe_int (pa_cons (pe_op op_sub (pv 0) pe_int) pa_nil))) pa_nil)) (pe_lst pa_nil)))), ?_⟩
    refine ⟨_, rfl, _, _, rfl, rfl, (n : Int) - 1, rfl, by omega, by omega, fun D hD => ?_⟩
    rw [show ((n : Int) - 1).toNat = n - 1 by omega]
    refine lc_it (walk_range (lo := 0) (n := n - 1)) (fun i H' => Same H H' ∧ ∃ rs : List Addr, H' D = some (.lst (rs.map V.ref)) ∧ PrAt H' rs (castE ((List.range i).map fun k => (k, k + 1))))
      ⟨same_upd hD, [], upd_same, .nil⟩ (fun _ _ _ _ => trivial) ?_ ?_
    · rintro i x H1 H2 hi ⟨s1, rs, eD, hrs⟩ ⟨rfl, rfl⟩
      refine ⟨rfl, tyes (iteT ?_)⟩
      refine ⟨_, rfl, _, rfl, _, _, rfl, rfl, by show 2 ≤ sizeLine; decide, fun t nt => ?_⟩
      have nDt : D ≠ t := ne_of_none eD nt
      have s2 := s1.trans (same_upd (o := .tup [.int (0 + (i : Nat)), .int (0 + (i : Nat) + 1)]) nt)
      have hrl := hrs.len
      simp at hrl
      refine ⟨_, (by rw [upd_ne nDt]; exact eD), ?_, ?_, rs ++ [t], ?_, ?_⟩
      · rw [List.length_map, hrl]
        exact small1000 (by omega)
      · exact fun c o e => by
          rw [upd_ne (ne_of_none e hD)]
          exact s2 _ _ e
      · rw [upd_same, List.map_append]
        rfl
      · have a1 : PrAt (upd H2 t (.tup [.int (0 + (i : Nat)), .int (0 + (i : Nat) + 1)])) (rs ++ [t]) (castE ((List.range i).map fun k => (k, k + 1)) ++ [((i : Int), (i : Int) + 1)]) := by
          refine PrAt.snoc (hrs.same (same_upd nt)) ?_
          rw [upd_same]
          unfold prV
          simp
        have e9 : castE ((List.range (i + 1)).map fun k => (k, k + 1)) = castE ((List.range i).map fun k => (k, k + 1)) ++ [((i : Int), (i : Int) + 1)] := by
          rw [List.range_succ]
          simp [castE]
        rw [e9]
        exact a1.upd fun p z => by
          rw [upd_ne nDt, eD] at z
          exact prV_ne _ _ z
    · rintro H1 ⟨s1, rs, eD, hrs⟩
      have hrl := hrs.len
      simp at hrl
      refine ⟨_, rfl, ring, rfl, ?_⟩
      cases ring with
      | true =>
        refine iteT ?_
        refine ⟨_, rfl, _, _, rfl, rfl, by show 2 ≤ sizeLine; decide, fun t nt => ?_⟩
        refine ⟨by show 1 ≤ sizeLine; decide, fun l nl => ?_⟩
        have nDt : D ≠ t := ne_of_none eD nt
        have s2 : Same H1 (upd H1 t (.tup [.int 0, .int ((n : Int) - 1)])) := same_upd nt
        have s3 := s2.trans (same_upd (o := .lst [.ref t]) nl)
        have eD3 := s3 _ _ eD
        refine ⟨D, l, _, _, rfl, rfl, eD3, upd_same, ?_, fun p np => ?_⟩
        · rw [List.length_map, hrl]
          show n - 1 + 1 ≤ sizeLine
          exact Nat.le_of_lt (small1000 (by omega))
        · have s4 := s3.trans (same_upd (o := .lst (rs.map V.ref ++ [.ref t])) np)
          refine q _ p (rs ++ [t]) (s1.trans s4) (by rw [upd_same, List.map_append]; rfl) ?_
          have e9 : castE (edgesL n true) = castE ((List.range (n - 1)).map fun k => (k, k + 1)) ++ [((0 : Int), (n : Int) - 1)] := by
            unfold edgesL
            simp [castE]
            omega
          rw [e9]
          refine PrAt.snoc (hrs.same s4) ?_
          refine (same_upd (o := .lst (rs.map V.ref ++ [.ref t])) np) _ _ ((same_upd (o := .lst [.ref t]) nl) _ _ ?_)
          rw [upd_same]
          rfl
      | false =>
        refine iteF ?_
        refine ⟨Nat.zero_le _, fun l nl => ?_⟩
        have s3 : Same H1 (upd H1 l (.lst [])) := same_upd nl
        have eD3 := s3 _ _ eD
        refine ⟨D, l, _, _, rfl, rfl, eD3, upd_same, ?_, fun p np => ?_⟩
        · rw [List.length_map, hrl]
          exact Nat.le_of_lt (small1000 (by show n - 1 + 0 ≤ 1000; omega))
        · have s4 := s3.trans (same_upd (o := .lst (rs.map V.ref ++ [])) np)
          refine q _ p rs (s1.trans s4) (by rw [upd_same, List.append_nil]) ?_
          have e9 : castE (edgesL n false) = castE ((List.range (n - 1)).map fun k => (k, k + 1)) := by
            unfold edgesL
            simp [castE]
          rw [e9]
          exact hrs.same s4
/-! ### comes_on -/
theorem scComesOn : FnScope ["edges", "one", "other", "a", "b"] ["edges", "one", "other"] (defScope sComesOn) := ⟨rfl, rfl, rfl, by decide +kernel, rfl, by decide +kernel, by decide +kernel⟩
def spComesOn : Sp := fun vs H Q _ => ∃ (e a b : Addr) (rs : List Addr) (E : Ed) (hs ks : List Int) (n : Nat), vs = [.ref e, .ref a, .ref b] ∧ H e = some (.lst (rs.map V.ref)) ∧ PrAt H rs (castE E) ∧ EdIn E n ∧ E.length ≤ 1000 ∧ HtAt H a hs ∧ HtAt H b ks ∧ hs.length = n ∧ ks.length = n ∧
  ∀ H', Same H H' → Q (.bl (comesB E hs ks)) H'
theorem ok_comes_on {f : Addr} {fd : FuncData} (G : Got K mg "comes_on" sComesOn ["edges", "one", "other"] f fd) (D1 : Dfn P w K mg base 1 "fits" ["low", "high", "from_low", "from_high"] spFits) : Dfn P w K mg base 2 "comes_on" ["edges", "one", "other"] spComesOn := by
  refine G.dfn (G.F.ok scComesOn (fun vs H Q E h => ?_) (fun cdv A outer s H vs Q E hr h => ?_))
  · obtain ⟨e, a, b, rs, E, hs, ks, n, rfl, _⟩ := h
    rfl
  · obtain ⟨e, a, b, rs, E, hs, ks, n, rfl, he, hrs, hE, hEl, ha, hb, hl, kl, q⟩ := h
    have hu := hr.units
    refine ⟨_, pss_one (ps_ret (pe_cmpR (op_eqD hu) (pe_lc (own := [("a", 3), ("b", 4)]) (g := gTup K 2 (gCons (gName 3) (gCons (gName 4) gNil))) rfl scComesOn.nd (pi_list (pv 0))
      (blkOk_by (N := ["edges", "one", "other", "a", "b"]) (sc := defScope sComesOn) (by decide +kernel))
      (fun _ _ _ _ _ => pg_tup rfl (pgs_cons (pg_name (i := 3) scComesOn.nd rfl (.inl rfl)) (pgs_cons (pg_name (i := 4) scComesOn.nd rfl (.inl rfl)) pgs_nil)))
      (fun _ _ _ _ _ => pts_one (pt_not (pt_val (pe_cd D1 hr (by decide) (by rfl) (pa_cons (pe_ix (r := rIxT K) ix_tup (pv 2) (pv 3) (fun _ _ => rfl)) (pa_cons (pe_ix (r := rIxT K) ix_tup (pv 2) (pv 4) (fun _ _ => rfl))
        (pa_cons (pe_ix (r := rIxT K) ix_tup (pv 1) (pv 3) (fun _ _ => rfl)) (pa_cons (pe_ix (r := rIxT K) ix_tup (pv 1) (pv 4) (fun _ _ => rfl)) pa_nil))))))))
      (fun _ _ _ _ _ => pe_tup (pa_cons (pv 3) (pa_cons (pv 4) pa_nil)))) (pe_lst pa_nil) (nomark _))), ?_⟩
    refine ⟨.ref e, rfl, e, rfl, ⟨_, SqL.of he⟩, fun D hD => ?_⟩
    have hrl := hrs.len
    simp at hrl
    refine lc_it (walk_list (K := K) (a := e) (xs := rs.map V.ref)) (fun i H' => Same H H' ∧ ∃ (ts : List Addr) (ps : List (Int × Int)), H' D = some (.lst (ts.map V.ref)) ∧ PrAt H' ts ps ∧ ps.length ≤ i ∧ (ps = [] ↔ comesB (E.take i) hs ks = true))
      ⟨same_upd hD, [], [], upd_same, .nil, Nat.zero_le _, by simp [comesB]⟩ (fun i H' _ ⟨s1, _⟩ => SqL.of (s1 _ _ he)) ?_ ?_
    · rintro i x H1 H2 hi ⟨s1, ts, ps, eD, hts, hpl, hps⟩ ⟨rfl, hx⟩
      rw [List.length_map, hrl] at hi
      have hri : rs[i]? = some (rs[i]'(by omega)) := List.getElem?_eq_getElem (by omega)
      have hEi : E[i]? = some E[i] := List.getElem?_eq_getElem hi
      have ex : x = .ref (rs[i]'(by omega)) := by
        rw [List.getElem?_map, hri] at hx
        exact (Option.some.inj hx).symm
      subst ex
      have hr0 := hrs.at_ i _ _ hri (by show (castE E)[i]? = _; rw [List.getElem?_map, hEi]; rfl)
      have hin := hE E[i] (List.getElem_mem hi)
      generalize E[i] = ed at hEi hr0 hin
      obtain ⟨x1, x2⟩ := ed
      have ha1 := s1 _ _ ha
      have hb1 := s1 _ _ hb
      have kx1 := at_vint (at_getD (ns := ks) (i := x1) (by rw [kl]; exact hin.1))
      have kx2 := at_vint (at_getD (ns := ks) (i := x2) (by rw [kl]; exact hin.2))
      have hx1 := at_vint (at_getD (ns := hs) (i := x1) (by rw [hl]; exact hin.1))
      have hx2 := at_vint (at_getD (ns := hs) (i := x2) (by rw [hl]; exact hin.2))
      refine ⟨_, _, rfl, SqT.of (s1 _ _ hr0), rfl, _, _, rfl, _, [], rfl, rfl, rfl, ?_⟩
      refine ⟨_, rfl, _, rfl, b, _, _, _, rfl, rfl, SqT.of hb1, atI_nat kx1, _, rfl, _, rfl, b, _, _, _, rfl, rfl, SqT.of hb1, atI_nat kx2,
        _, rfl, _, rfl, a, _, _, _, rfl, rfl, SqT.of ha1, atI_nat hx1, _, rfl, _, rfl, a, _, _, _, rfl, rfl, SqT.of ha1, atI_nat hx2, _, _, _, _, rfl, _, rfl, ?_⟩
      have etk : E.take (i + 1) = E.take i ++ [(x1, x2)] := by rw [List.take_add_one, hEi]; rfl
      have ecb : comesB (E.take (i + 1)) hs ks = (comesB (E.take i) hs ks && fitsB (LvM.at_ ks x1) (LvM.at_ ks x2) (LvM.at_ hs x1) (LvM.at_ hs x2)) := by
        rw [etk]
        unfold comesB
        rw [List.all_append]
        simp
      cases ef : fitsB (LvM.at_ ks x1) (LvM.at_ ks x2) (LvM.at_ hs x1) (LvM.at_ hs x2) with
      | true =>
        refine iteF ?_
        refine ⟨s1, ts, ps, eD, hts, by omega, ?_⟩
        rw [ecb, ef, Bool.and_true]
        exact hps
      | false =>
        refine iteT ?_
        refine ⟨_, rfl, _, rfl, by show 2 ≤ sizeLine; decide, fun t nt => ?_⟩
        have nDt : D ≠ t := ne_of_none eD nt
        have s2 := s1.trans (same_upd (o := .tup [.int (x1 : Nat), .int (x2 : Nat)]) nt)
        refine ⟨_, (by rw [upd_ne nDt]; exact eD), ?_, ?_, ts ++ [t], ps ++ [((x1 : Int), (x2 : Int))], ?_, ?_, ?_, ?_⟩
        · rw [List.length_map, hts.len]
          exact small1000 (by omega)
        · exact fun c o e => by
            rw [upd_ne (ne_of_none e hD)]
            exact s2 _ _ e
        · rw [upd_same, List.map_append]
          rfl
        · refine PrAt.upd (PrAt.snoc (hts.same (same_upd nt)) ?_) fun p z => ?_
          · rw [upd_same]
            rfl
          · rw [upd_ne nDt, eD] at z
            exact prV_ne _ _ z
        · rw [List.length_append, List.length_singleton]
          omega
        · rw [ecb, ef, Bool.and_false]
          simp
    · rintro H1 ⟨s1, ts, ps, eD, hts, hpl, hps⟩
      refine ⟨Nat.zero_le _, fun l nl => ?_⟩
      have s2 : Same H1 (upd H1 l (.lst [])) := same_upd nl
      refine ⟨_, _, .lst (SqL.of (s2 _ _ eD)) (dp_prs (hts.same s2)), .lst (SqL.of upd_same) .nil, prD2s_shaped ps, by decide +kernel, ?_⟩
      rw [eqv_nil]
      have e1 : decide (ps = []) = comesB E hs ks := by
        have e2 : E.take (rs.map V.ref).length = E := by
          rw [List.length_map, hrl]
          exact List.take_length
        rw [e2] at hps
        cases hc : comesB E hs ks with
        | true => exact decide_eq_true (hps.mpr hc)
        | false => exact decide_eq_false (fun z => by rw [hps.mp z] at hc; cases hc)
      rw [e1]
      exact q _ (s1.trans s2)
end
end Lv

namespace Lv
open PySem PySem.Spec PyProof.Rows L2 LamX NdefX LvL LvG LvM
section
variable {P : Program} {w : World} {K : PySem.W.Frag} {mg : Str → Option Value} {base : Heap}
/-! ### row_fewest, ring_fewest -/
theorem scRowFewest : FnScope ["many", "roof", "one", "other"] ["many", "roof", "one", "other"] (defScope sRowFewest) := ⟨rfl, rfl, rfl, by decide +kernel, rfl, by decide +kernel, by decide +kernel⟩
theorem scRingFewest : FnScope ["many", "roof", "one", "other"] ["many", "roof", "one", "other"] (defScope sRingFewest) := ⟨rfl, rfl, rfl, by decide +kernel, rfl, by decide +kernel, by decide +kernel⟩
def fewV (n : Nat) (ring : Bool) (hs ks : List Int) : V := if comesB (edgesL n ring) hs ks = true then .int (dist hs ks) else .non
def spFewest (least : Int) (ring : Bool) : Sp := fun vs H Q _ => ∃ (n : Nat) (r : Int) (a b : Addr) (hs ks : List Int), vs = [.int n, .int r, .ref a, .ref b] ∧ 1 ≤ n ∧ RowOk n least r H a hs ∧ RowOk n least r H b ks ∧ ∀ H', Same H H' → Q (fewV n ring hs ks) H'
theorem ok_row_fewest {f : Addr} {fd : FuncData} (G : Got K mg "row_fewest" sRowFewest ["many", "roof", "one", "other"] f fd) (D1 : Dfn P w K mg base 4 "need_rows" ["many", "least", "roof", "one", "other"] spNeedRows)
    (D2 : Dfn P w K mg base 2 "comes_on" ["edges", "one", "other"] spComesOn) (D3 : Dfn P w K mg base 1 "edges_of" ["many", "is_ring"] spEdgesOf) (D4 : Dfn P w K mg base 1 "steps_in" ["one", "other"] spStepsIn) : FnOk P w K mg base CX0 5 f fd ["many", "roof", "one", "other"] (spFewest 1 false) := by
  refine (G.F.ok scRowFewest (fun vs H Q E h => ?_) (fun cdv A outer s H vs Q E hr h => ?_))
  · obtain ⟨n, r, a, b, hs, ks, rfl, _⟩ := h
    rfl
  · obtain ⟨n, r, a, b, hs, ks, rfl, hn, R1, R2, q⟩ := h
    refine ⟨_, pss_cons (ps_expr (pe_cd D1 hr (by decide) (by rfl) (pa_cons (pv 0) (pa_cons pe_int (pa_cons (pv 1) (pa_cons (pv 2) (pa_cons (pv 3) pa_nil)))))))
      (pss_one (ps_ret (pe_ifExp (pt_val (pe_cd D2 hr (by decide) (by rfl) (pa_cons (pe_cd D3 hr (by decide) (by rfl) (pa_cons (pv 0) (pa_cons pe_bl pa_nil))) (pa_cons (pv 2) (pa_cons (pv 3) pa_nil)))))
        (pe_cd D4 hr (by decide) (by rfl) (pa_cons (pv 2) (pa_cons (pv 3) pa_nil))) pe_non))), ?_⟩
    have hl := R1.len
    have kl := R2.len
    have h40 := R1.hi
    refine ⟨_, rfl, _, rfl, _, rfl, _, rfl, _, _, _, a, b, hs, ks, rfl, R1, R2, fun H1 s1 => ?_⟩
    refine ⟨_, rfl, n, false, rfl, hn, by omega, fun H2 p rs s2 e2 pr => ?_⟩
    have s3 := s1.trans s2
    have el := edgesL_len n false
    refine ⟨_, rfl, _, rfl, p, a, b, rs, edgesL n false, hs, ks, n, rfl, e2, pr, edgesL_in false hn, by omega, s3 _ _ R1.at_, s3 _ _ R2.at_, by omega, by omega, fun H4 s4 => ?_⟩
    have s5 := s3.trans s4
    refine ⟨_, rfl, ?_⟩
    unfold fewV at q
    refine ite2 (fun e => ?_) (fun e => ?_)
    · rw [if_pos e] at q
      exact ⟨_, rfl, _, rfl, a, b, hs, ks, rfl, s5 _ _ R1.at_, s5 _ _ R2.at_, by omega, by omega, fun H6 s6 => q H6 (s5.trans s6)⟩
    · rw [if_neg e] at q
      exact q _ s5
theorem ok_ring_fewest {f : Addr} {fd : FuncData} (G : Got K mg "ring_fewest" sRingFewest ["many", "roof", "one", "other"] f fd) (D1 : Dfn P w K mg base 4 "need_rows" ["many", "least", "roof", "one", "other"] spNeedRows)
    (D2 : Dfn P w K mg base 2 "comes_on" ["edges", "one", "other"] spComesOn) (D3 : Dfn P w K mg base 1 "edges_of" ["many", "is_ring"] spEdgesOf) (D4 : Dfn P w K mg base 1 "steps_in" ["one", "other"] spStepsIn) : FnOk P w K mg base CX0 5 f fd ["many", "roof", "one", "other"] (spFewest 3 true) := by
  refine (G.F.ok scRingFewest (fun vs H Q E h => ?_) (fun cdv A outer s H vs Q E hr h => ?_))
  · obtain ⟨n, r, a, b, hs, ks, rfl, _⟩ := h
    rfl
  · obtain ⟨n, r, a, b, hs, ks, rfl, hn, R1, R2, q⟩ := h
    refine ⟨_, pss_cons (ps_expr (pe_cd D1 hr (by decide) (by rfl) (pa_cons (pv 0) (pa_cons pe_int (pa_cons (pv 1) (pa_cons (pv 2) (pa_cons (pv 3) pa_nil)))))))
      (pss_one (ps_ret (pe_ifExp (pt_val (pe_cd D2 hr (by decide) (by rfl) (pa_cons (pe_cd D3 hr (by decide) (by rfl) (pa_cons (pv 0) (pa_cons pe_bl pa_nil))) (pa_cons (pv 2) (pa_cons (pv 3) pa_nil)))))
        (pe_cd D4 hr (by decide) (by rfl) (pa_cons (pv 2) (pa_cons (pv 3) pa_nil))) pe_non))), ?_⟩
    have hl := R1.len
    have kl := R2.len
    have h40 := R1.hi
    refine ⟨_, rfl, _, rfl, _, rfl, _, rfl, _, _, _, a, b, hs, ks, rfl, R1, R2, fun H1 s1 => ?_⟩
    refine ⟨_, rfl, n, true, rfl, hn, by omega, fun H2 p rs s2 e2 pr => ?_⟩
    have s3 := s1.trans s2
    have el := edgesL_len n true
    refine ⟨_, rfl, _, rfl, p, a, b, rs, edgesL n true, hs, ks, n, rfl, e2, pr, edgesL_in true hn, by omega, s3 _ _ R1.at_, s3 _ _ R2.at_, by omega, by omega, fun H4 s4 => ?_⟩
    have s5 := s3.trans s4
    refine ⟨_, rfl, ?_⟩
    unfold fewV at q
    refine ite2 (fun e => ?_) (fun e => ?_)
    · rw [if_pos e] at q
      exact ⟨_, rfl, _, rfl, a, b, hs, ks, rfl, s5 _ _ R1.at_, s5 _ _ R2.at_, by omega, by omega, fun H6 s6 => q H6 (s5.trans s6)⟩
    · rw [if_neg e] at q
      exact q _ s5
/-! ### dicts of ints -/
abbrev kvI (rows : List (Int × Int)) : List (Key × V) := rows.map fun p => ((Sum.inl p.1 : Key), V.int p.2)
theorem valI_none : ∀ {rows : List (Int × Int)} {x : Int}, x ∉ rows.map (·.1) → valV (kvI rows) (Sum.inl x) = none
  | [], _, _ => rfl
  | p :: r, x, h => by
    have h1 : p.1 ≠ x := fun z => h (by rw [← z]; exact List.mem_cons_self)
    show valV (((Sum.inl p.1 : Key), V.int p.2) :: kvI r) (Sum.inl x) = none
    rw [valV_neg (fun z => h1 (Sum.inl.inj z))]
    exact valI_none fun z => h (List.mem_cons_of_mem _ z)
theorem valI_some : ∀ {rows : List (Int × Int)} {p : Int × Int}, (rows.map (·.1)).Nodup → p ∈ rows → valV (kvI rows) (Sum.inl p.1) = some (.int p.2)
  | [], _, _, h => by simp at h
  | q :: r, p, nd, h => by
    have nd : (q.1 :: r.map (·.1)).Nodup := nd
    obtain ⟨n1, n2⟩ := List.nodup_cons.mp nd
    show valV (((Sum.inl q.1 : Key), V.int q.2) :: kvI r) (Sum.inl p.1) = some (.int p.2)
    rcases List.mem_cons.mp h with e | e
    · rw [e, valV_pos rfl]
    · rw [valV_neg (fun z => n1 (by rw [Sum.inl.inj z]; exact List.mem_map.mpr ⟨p, e, rfl⟩))]
      exact valI_some n2 e
def grownL (rows : List (Int × Int)) (R : Nat) (g : Int → Int → Bool) : List (Int × Int) := (List.range R).map fun (k : Nat) => ((k : Int), ((rows.filter fun p => g p.1 k).map (·.2)).sum)
theorem grownL_keys (rows : List (Int × Int)) (R : Nat) (g : Int → Int → Bool) : (grownL rows R g).map (·.1) = (List.range R).map fun (k : Nat) => (k : Int) := by
  unfold grownL
  rw [List.map_map]
  rfl
theorem range_nodup (R : Nat) : ((List.range R).map fun (k : Nat) => (k : Int)).Nodup := by
  have h := List.nodup_range (n := R)
  exact List.Pairwise.map _ (fun a b hab z => hab (by omega)) h
theorem grownL_nodup (rows : List (Int × Int)) (R : Nat) (g : Int → Int → Bool) : ((grownL rows R g).map (·.1)).Nodup := by
  rw [grownL_keys]
  exact range_nodup R
theorem grownL_len (rows : List (Int × Int)) (R : Nat) (g : Int → Int → Bool) : (grownL rows R g).length = R := by
  unfold grownL
  rw [List.length_map, List.length_range]
theorem FvOk.mono {k j : Nat} {f : Addr} {cond : Hp → Prop} {sp : Sp} (F : FvOk P w K mg base j f cond sp) (h : j ≤ k) : FvOk P w K mg base k f cond sp := ⟨F.at_, fun A outer s H us vs Q hr => F.run A outer s H us vs Q (hr.mono h)⟩
/-! ### grown -/
theorem scGrown : FnScope ["rows", "roof", "lets", "found", "here", "last"] ["rows", "roof", "lets"] (defScope sGrown) := ⟨rfl, rfl, rfl, by decide +kernel, rfl, by decide +kernel, by decide +kernel⟩
def spGrown (P : Program) (w : World) (K : PySem.W.Frag) (mg : Str → Option Value) (base : Heap) : Sp := fun vs H Q _ => ∃ (r f : Addr) (roof : Nat) (rows : List (Int × Int)) (g : Int → Int → Bool) (cond : Hp → Prop), vs = [.ref r, .int roof, .ref f] ∧ roof ≤ 100 ∧
  H r = some (.dK (kvI rows)) ∧ (rows.map (·.1)).Nodup ∧ rows.length ≤ 1000 ∧ FvOk P w K mg base 2 f cond (spB g) ∧ cond H ∧ (∀ H1 H2, SameF H1 H2 → cond H1 → cond H2) ∧
  ∀ H' d, Same H H' → H d = none → H' d = some (.dK (kvI (grownL rows (roof + 1) g))) → Q (.ref d) H'
theorem ok_grown {f : Addr} {fd : FuncData} (G : Got K mg "grown" sGrown ["rows", "roof", "lets"] f fd) (T : Txt mg) : Dfn P w K mg base 3 "grown" ["rows", "roof", "lets"] (spGrown P w K mg base) := by
  refine G.dfn (G.F.ok scGrown (fun vs H Q E h => ?_) (fun cdv A outer s H vs Q E hr h => ?_))
  · obtain ⟨r, f, roof, rows, g, cond, rfl, _⟩ := h
    rfl
  · obtain ⟨r, fl, roof, rows, g, cond, rfl, h100, hrr, hnd, hlen, FV, hc, hst, q⟩ := h
    have hu := hu_of hr
    refine ⟨_, pss_cons (ps_set (i := 3) scGrown.nd rfl (.inl rfl) pe_dnewK)
      (pss_cons (ps_for PassesOwn.never rfl (pi_range1 (by rfl) T.range (pa_cons (pe_op op_add (pv 1) pe_int) pa_nil)) (pg_name (i := 4) scGrown.nd rfl (.inr rfl))
        (pss_one (ps_dput hu (pv 3) (pv 4) (pe_callB (cr_sum rfl) (by rfl) T.sum (by decide +kernel) (pa_cons (pe_lock (pe_lc (own := [("last", 5)]) (g := gName 5) rfl scGrown.nd (pi_keysM (pv 0))
          (blkOk_by (N := ["rows", "roof", "lets", "found", "here", "last"]) (sc := defScope sGrown) (by decide +kernel))
          (fun _ _ _ _ _ => pg_name (i := 5) scGrown.nd rfl (.inl rfl))
          (fun _ _ _ _ _ => pts_one (pt_val (pe_callV (i := 2) FV hr rfl (.inr (.inl rfl)) (pa_cons (pv 5) (pa_cons (pv 4) pa_nil)))))
          (fun _ _ _ _ _ => pe_dget hu (pv 0) (pv 5) (fun _ _ => rfl)))) pa_nil)) rfl)))
      (pss_one (ps_ret (pv 3)))), ?_⟩
    intro d hd
    have ndr : d ≠ r := fun z => by rw [z, hrr] at hd; cases hd
    refine ⟨_, rfl, _, _, rfl, rfl, (roof : Int) + 1, rfl, by omega, by omega, ?_⟩
    rw [show ((roof : Int) + 1).toNat = roof + 1 by omega]
    refine for_it (walk_range (lo := 0) (n := roof + 1)) (fun i σ H' => ∃ y4 y5, σ = [some (.ref r), some (.int roof), some (.ref fl), some (.ref d), y4, y5] ∧ Same H H' ∧ H' d = some (.dK (kvI (grownL rows i g))))
      ⟨none, none, rfl, same_upd hd, upd_same⟩ (fun _ _ _ _ _ => trivial) ?_ ?_
    · rintro i x σ H1 H2 hi ⟨y4, y5, rfl, s1, ed⟩ ⟨rfl, rfl⟩
      have hr1 := s1 _ _ hrr
      refine ⟨r, _, hr1, trivial, fun od => ?_⟩
      have sF : SameF H2 (upd H2 r (.frz od (.dK (kvI rows)))) := SameF.upd_dK hr1
      refine ⟨_, rfl, r, od, kvI rows, rfl, upd_same, fun D hD => ?_⟩
      have nDr : D ≠ r := fun z => by rw [z, upd_same] at hD; cases hD
      have hD2 : H2 D = none := by rw [upd_ne nDr] at hD; exact hD
      have nDd : D ≠ d := fun z => by rw [z, ed] at hD2; cases hD2
      refine lc_it (walk_keys (d := r) (o := od) (kvs := kvI rows)) (fun j H' => Same (upd H2 r (.frz od (.dK (kvI rows)))) H' ∧ H' D = some (.lst ((((rows.take j).filter fun p => g p.1 (0 + (i : Nat))).map (·.2)).map V.int)))
        ⟨same_upd hD, upd_same⟩ (fun j H' _ ⟨s2, _⟩ => s2 _ _ upd_same) ?_ ?_
      · rintro j x H3 H4 hj ⟨s2, eD⟩ ⟨rfl, k, v, hkv, rfl⟩
        rw [List.length_map] at hj
        have hp : rows[j]? = some rows[j] := List.getElem?_eq_getElem hj
        have hpm : rows[j] ∈ rows := List.getElem_mem hj
        generalize rows[j] = p at hp hpm
        rw [List.getElem?_map, hp] at hkv
        cases hkv
        have hcc : cond H4 := hst _ _ (sF.trans (SameF.of s2)) (hst _ _ (SameF.of s1) hc)
        refine ⟨rfl, ?_⟩
        refine ⟨rfl, hcc, _, rfl, _, rfl, hcc, p.1, 0 + (i : Nat), rfl, _, rfl, ?_⟩
        have etk : rows.take (j + 1) = rows.take j ++ [p] := by rw [List.take_add_one, hp]; rfl
        have hfrz : H4 r = some (.frz od (.dK (kvI rows))) := s2 _ _ upd_same
        cases eg : g p.1 (0 + (i : Nat)) with
        | false =>
          refine iteF ⟨s2, ?_⟩
          rw [etk, List.filter_append, List.filter_cons_of_neg (by rw [eg]; exact Bool.false_ne_true), List.filter_nil, List.append_nil]
          exact eD
        | true =>
          refine iteT ⟨_, rfl, _, rfl, r, V.int p.2, rfl, .inl ⟨kvI rows, Sum.inl p.1, .inr ⟨od, hfrz⟩, rfl, (valI_some hnd hpm).symm⟩, _, eD, ?_, ?_, ?_⟩
          · rw [List.length_map, List.length_map]
            have := List.length_filter_le (fun p => g p.1 (0 + (i : Nat))) (rows.take j)
            rw [List.length_take] at this
            exact small1000 (by omega)
          · exact fun c o e => by
              rw [upd_ne (ne_of_none e hD)]
              exact s2 _ _ e
          · rw [upd_same, etk, List.filter_append, List.filter_cons_of_pos (p := fun p : Int × Int => g p.1 (0 + (i : Nat))) eg, List.filter_nil, List.map_append, List.map_append]
            rfl
      · rintro H3 ⟨s2, eD⟩
        rw [List.length_map, List.take_length] at eD
        refine ⟨s2 _ _ upd_same, ?_⟩
        have s3 : Same H2 (upd H3 r (.dK (kvI rows))) := fun c o e => by
          by_cases z : c = r
          · rw [z, hr1] at e
            rw [z, upd_same, e]
          · rw [upd_ne z]
            exact s2 _ _ (by rw [upd_ne z]; exact e)
        refine ⟨D, _, rfl, SqL.of (by rw [upd_ne nDr]; exact eD), ?_⟩
        refine ⟨_, rfl, _, rfl, d, _, rfl, DPut.k (k := Sum.inl (0 + (i : Nat))) (s3 _ _ ed) ?_, ?_⟩
        · rw [List.length_map, grownL_len]
          exact small1000 (by omega)
        · refine ⟨_, _, rfl, fun c o e => ?_, ?_⟩
          · rw [upd_ne (ne_of_none e hd)]
            exact s3 _ _ (s1 _ _ e)
          · rw [upd_same]
            have hk : ((i : Nat) : Int) ∉ (grownL rows i g).map (·.1) := by
              rw [grownL_keys]
              intro z
              obtain ⟨m, hm, e⟩ := List.mem_map.mp z
              have := List.mem_range.mp hm
              omega
            have e0 : (0 : Int) + (i : Nat) = (i : Nat) := by omega
            rw [e0, putK_new _ (valI_none hk)]
            have e9 : kvI (grownL rows (i + 1) g) = kvI (grownL rows i g) ++ [(Sum.inl ((i : Nat) : Int), V.int (((rows.filter fun p => g p.1 (i : Nat)).map (·.2)).sum))] := by
              unfold grownL
              rw [List.range_succ, List.map_append]
              simp
            rw [e9]
    · rintro σ H1 ⟨y4, y5, rfl, s1, ed⟩
      exact ⟨_, rfl, q H1 d s1 hd ed⟩
end
end Lv

namespace Lv
open PySem PySem.Spec PyProof.Rows L2 LamX NdefX LvL LvG LvM
/-! ### rows of numbers of ways -/
def ones (R : Nat) : List (Int × Int) := (List.range R).map fun (k : Nat) => ((k : Int), (1 : Int))
theorem ones_keys (R : Nat) : (ones R).map (·.1) = (List.range R).map fun (k : Nat) => (k : Int) := by
  unfold ones
  rw [List.map_map]
  rfl
theorem ones_nodup (R : Nat) : ((ones R).map (·.1)).Nodup := by
  rw [ones_keys]
  exact range_nodup R
theorem ones_len (R : Nat) : (ones R).length = R := by
  unfold ones
  rw [List.length_map, List.length_range]
def rowsFrom (r0 : List (Int × Int)) (R : Nat) (g : Nat → Int → Int → Bool) : Nat → List (Int × Int)
  | 0 => r0
  | i + 1 => grownL (rowsFrom r0 R g i) R (g (i + 1))
theorem rowsFrom_nodup {r0 : List (Int × Int)} {R : Nat} {g : Nat → Int → Int → Bool} (h : (r0.map (·.1)).Nodup) : ∀ i, ((rowsFrom r0 R g i).map (·.1)).Nodup
  | 0 => h
  | _ + 1 => grownL_nodup _ _ _
theorem rowsFrom_len {r0 : List (Int × Int)} {R m : Nat} {g : Nat → Int → Int → Bool} (h : r0.length ≤ m) (hR : R ≤ m) : ∀ i, (rowsFrom r0 R g i).length ≤ m
  | 0 => h
  | i + 1 => by
    show (grownL _ _ _).length ≤ m
    rw [grownL_len]
    exact hR
def sumV (rows : List (Int × Int)) : Int := (rows.map (·.2)).sum
theorem kvI_snd (rows : List (Int × Int)) : (kvI rows).map Prod.snd = (rows.map (·.2)).map V.int := by
  rw [List.map_map, List.map_map]
  rfl
theorem mergeK_new : ∀ (more acc : List (Int × Int)), ((acc ++ more).map (·.1)).Nodup → mergeK (kvI acc) (kvI more) = kvI (acc ++ more)
  | [], acc, _ => by rw [List.append_nil]; rfl
  | p :: r, acc, h => by
    have h2 : ((acc ++ [p] ++ r).map (·.1)).Nodup := by
      rw [List.append_assoc]
      exact h
    have hp : p.1 ∉ acc.map (·.1) := by
      rw [List.map_append, List.nodup_append] at h
      exact fun z => h.2.2 _ z p.1 List.mem_cons_self rfl
    have e1 : putK (kvI acc) (Sum.inl p.1 : Key) (V.int p.2) = kvI (acc ++ [p]) := by
      rw [putK_new _ (valI_none hp)]
      show kvI acc ++ _ = (acc ++ [p]).map _
      rw [List.map_append]
      rfl
    show mergeK (putK (kvI acc) (Sum.inl p.1 : Key) (V.int p.2)) (kvI r) = _
    rw [e1, mergeK_new r (acc ++ [p]) h2, List.append_assoc]
    rfl
theorem mergeK_nil {rows : List (Int × Int)} (h : (rows.map (·.1)).Nodup) : mergeK [] (kvI rows) = kvI rows := mergeK_new rows [] h
theorem paired_pr {K : PySem.W.Frag} {H : Hp} : ∀ {rs : List Addr} {ps : List (Int × Int)}, PrAt H rs ps → Paired (fun p (kv : Key × V) => SqT K H p [kV kv.1, kv.2]) rs (kvI ps)
  | [], [], _ => .nil
  | [], _ :: _, h => by have := h.len; simp at this
  | _ :: _, [], h => by have := h.len; simp at this
  | r :: rs, p :: ps, h => .cons (SqT.of (h.at_ 0 r p rfl rfl)) (paired_pr ⟨by have := h.len; simpa using this, fun j r2 p2 a b => h.at_ (j + 1) r2 p2 a b⟩)
section
variable {P : Program} {w : World} {K : PySem.W.Frag} {mg : Str → Option Value} {base : Heap}
theorem fv_of_got {k : Nat} {x : Str} {ps : List Str} {sp : Sp} {st : Stmt} {f : Addr} {fd : FuncData} (G : Got K mg x st ps f fd) (D : Dfn P w K mg base k x ps sp) : FvOk P w K mg base k f (fun _ => True) sp := by
  obtain ⟨f2, fd2, g, ok, kp, b⟩ := D.ex
  have e : f2 = f := by
    have := g.symm.trans G.g
    cases this
    rfl
  subst e
  refine ⟨fun h H kx _ _ => ?_, fun A outer s H us vs Q hr e0 _ r q => ?_⟩
  · obtain ⟨oc, od, kV, doc, pm, an, cdv, ct, osl, _, lk, _⟩ := G.F.ex
    exact ⟨oc, od, fd, osl, kx _ _ lk⟩
  · have hl := ok.len _ _ _ _ q
    have KX : K.In s.heap := e0.mod.kin.keeps fun b o e => (e0.bs b o e).1
    have hb := b s us KX (by rw [List.append_nil, ← r.length]; exact hl)
    rw [List.append_nil] at hb
    exact ok.run A outer s H ⟨us, []⟩ us vs Q E0 hr e0 hb r q
/-! ### row_gentle_count -/
theorem scRowGentle : FnScope ["many", "roof", "rows", "k", "height"] ["many", "roof"] (defScope sRowGentle) := ⟨rfl, rfl, rfl, by decide +kernel, rfl, by decide +kernel, by decide +kernel⟩
def spGentle (least : Int) (res : Nat → Nat → Int) : Sp := fun vs H Q _ => ∃ (n roof : Nat), vs = [.int n, .int roof] ∧ least ≤ n ∧ 1 ≤ n ∧ n ≤ 40 ∧ 1 ≤ roof ∧ roof ≤ 9 ∧ ∀ H', Same H H' → Q (.int (res n roof)) H'
def rowGentle (n roof : Nat) : Int := sumV (rowsFrom (ones (roof + 1)) (roof + 1) (fun _ => softB) (n - 1))
theorem ok_row_gentle {f fS : Addr} {fd fdS : FuncData} (G : Got K mg "row_gentle_count" sRowGentle ["many", "roof"] f fd) (T : Txt mg) (D1 : Dfn P w K mg base 2 "need_many" ["many", "least"] spNeedMany) (D2 : Dfn P w K mg base 2 "need_roof" ["roof"] spNeedRoof)
    (D3 : Dfn P w K mg base 3 "grown" ["rows", "roof", "lets"] (spGrown P w K mg base)) (GS : Got K mg "is_soft" sIsSoft ["low", "high"] fS fdS) (D4 : Dfn P w K mg base 1 "is_soft" ["low", "high"] (spB softB)) : FnOk P w K mg base CX0 5 f fd ["many", "roof"] (spGentle 1 rowGentle) := by
  refine (G.F.ok scRowGentle (fun vs H Q E h => ?_) (fun cdv A outer s H vs Q E hr h => ?_))
  · obtain ⟨n, roof, rfl, _⟩ := h
    rfl
  · obtain ⟨n, roof, rfl, _, h1, h40, r1, r9, q⟩ := h
    have FV := fv_of_got GS D4
    refine ⟨_, pss_cons (ps_expr (pe_cd D1 hr (by decide) (by rfl) (pa_cons (pv 0) (pa_cons pe_int pa_nil))))
      (pss_cons (ps_expr (pe_cd D2 hr (by decide) (by rfl) (pa_cons (pv 1) pa_nil)))
      (pss_cons (ps_set (i := 2) scRowGentle.nd rfl (.inl rfl) (pe_callTy (call_dictP rfl) (by rfl) T.dict (by decide +kernel) (pa_cons (pe_lc (own := [("height", 4)]) (g := gName 4) (tt := tYes) rfl scRowGentle.nd (pi_range1 (by rfl) T.range (pa_cons (pe_op op_add (pv 1) pe_int) pa_nil))
          (blkOk_by (N := ["many", "roof", "rows", "k", "height"]) (sc := defScope sRowGentle) (by decide +kernel))
          (fun _ _ _ _ _ => pg_name (i := 4) scRowGentle.nd rfl (.inl rfl))
          (fun _ _ _ _ _ => pts_nil)
          (fun _ _ _ _ _ => pe_tup (pa_cons (pv 4) (pa_cons pe_int pa_nil)))) pa_nil)))
      (pss_cons (ps_for PassesOwn.never rfl (pi_range2 (by rfl) T.range (pa_cons pe_int (pa_cons (pv 0) pa_nil))) (pg_name (i := 3) scRowGentle.nd rfl (.inl rfl))
        (pss_one (ps_set (i := 2) scRowGentle.nd rfl (.inl rfl) (pe_cd D3 hr (by decide) (by rfl) (pa_cons (pv 2) (pa_cons (pv 1) (pa_cons (pe_glob (v := .ref fS) rfl GS.g rfl) pa_nil)))))))
      (pss_one (ps_ret (pe_callB (cr_sumV rfl) (by rfl) T.sum (by decide +kernel) (pa_cons (pe_vals (pv 2)) pa_nil))))))), ?_⟩
    refine ⟨_, rfl, _, _, rfl, by omega, by omega, ?_⟩
    refine ⟨_, rfl, _, rfl, by omega, by omega, ?_⟩
    -- rows = dict(..)
    refine ⟨_, rfl, _, _, rfl, rfl, (roof : Int) + 1, rfl, by omega, by omega, fun D hD => ?_⟩
    rw [show ((roof : Int) + 1).toNat = roof + 1 by omega]
    refine lc_it (walk_range (lo := 0) (n := roof + 1)) (fun i H' => Same H H' ∧ ∃ rs : List Addr, H' D = some (.lst (rs.map V.ref)) ∧ PrAt H' rs (ones i))
      ⟨same_upd hD, [], upd_same, .nil⟩ (fun _ _ _ _ => trivial) ?_ ?_
    · rintro i x H1 H2 hi ⟨s1, rs, eD, hrs⟩ ⟨rfl, rfl⟩
      refine ⟨rfl, tyes (iteT ?_)⟩
      refine ⟨_, rfl, by show 2 ≤ sizeLine; decide, fun t nt => ?_⟩
      have nDt : D ≠ t := ne_of_none eD nt
      have s2 := s1.trans (same_upd (o := .tup [.int (0 + (i : Nat)), .int 1]) nt)
      have hrl := hrs.len
      rw [ones_len] at hrl
      refine ⟨_, (by rw [upd_ne nDt]; exact eD), ?_, ?_, rs ++ [t], ?_, ?_⟩
      · rw [List.length_map, hrl]
        exact small1000 (by omega)
      · exact fun c o e => by
          rw [upd_ne (ne_of_none e hD)]
          exact s2 _ _ e
      · rw [upd_same, List.map_append]
        rfl
      · have a1 : PrAt (upd H2 t (.tup [.int (0 + (i : Nat)), .int 1])) (rs ++ [t]) (ones i ++ [((i : Int), (1 : Int))]) := by
          refine PrAt.snoc (hrs.same (same_upd nt)) ?_
          rw [upd_same]
          unfold prV
          simp
        have e9 : ones (i + 1) = ones i ++ [((i : Int), (1 : Int))] := by
          unfold ones
          rw [List.range_succ, List.map_append]
          rfl
        rw [e9]
        exact a1.upd fun p z => by
          rw [upd_ne nDt, eD] at z
          exact prV_ne _ _ z
    · rintro H1 ⟨s1, rs, eD, hrs⟩
      refine ⟨D, rs, kvI (ones (roof + 1)), rfl, SqL.of eD, paired_pr hrs, fun d nd => ?_⟩
      rw [mergeK_nil (ones_nodup _)]
      have s2 := s1.trans (same_upd (o := .dK (kvI (ones (roof + 1)))) nd)
      -- for k in range(1, many)
      refine ⟨_, rfl, 1, (n : Int), rfl, ⟨by omega, by omega, by omega, by omega⟩, ?_⟩
      rw [show ((n : Int) - 1).toNat = n - 1 by omega]
      refine for_it (walk_range (lo := 1) (n := n - 1)) (fun i σ H' => ∃ (rr : Addr) (y3 y4 : Option V), σ = [some (.int n), some (.int roof), some (.ref rr), y3, y4] ∧ Same H H' ∧ H' rr = some (.dK (kvI (rowsFrom (ones (roof + 1)) (roof + 1) (fun _ => softB) i))))
        ⟨d, none, none, rfl, s2, upd_same⟩ (fun _ _ _ _ _ => trivial) ?_ ?_
      · rintro i x σ H3 H4 hi ⟨rr, y3, y4, rfl, s3, err⟩ ⟨rfl, rfl⟩
        refine ⟨_, rfl, _, rfl, rr, fS, roof, rowsFrom (ones (roof + 1)) (roof + 1) (fun _ => softB) i, softB, _, rfl, by omega, err, rowsFrom_nodup (ones_nodup _) i, rowsFrom_len (by rw [ones_len]; omega) (by omega) i, FvOk.mono FV (by decide), trivial, fun _ _ _ _ => trivial, fun H5 d5 s5 _ e5 => ?_⟩
        exact ⟨d5, _, _, rfl, s3.trans s5, e5⟩
      · rintro σ H3 ⟨rr, y3, y4, rfl, s3, err⟩
        refine ⟨_, rfl, rr, _, rfl, err, fun p np => ?_⟩
        have s4 : Same H3 (upd H3 p (viewO p rr)) := same_upd np
        exact ⟨p, rr, _, _, rfl, upd_same, s4 _ _ err, kvI_snd _, q _ (s3.trans s4)⟩
/-! ### ring_gentle_count -/
theorem scRingGentle : FnScope ["many", "roof", "found", "first", "rows", "k", "last"] ["many", "roof"] (defScope sRingGentle) := ⟨rfl, rfl, rfl, by decide +kernel, rfl, by decide +kernel, by decide +kernel⟩
/-- what one first height brings -/
def ringPart (R m : Nat) (g : Nat → Int → Int → Bool) (c : Int → Int → Bool) (first : Int) : Int := (((rowsFrom [(first, 1)] R g m).filter fun p => c first p.1).map (·.2)).sum
def ringSum (R m : Nat) (g : Nat → Int → Int → Bool) (c : Int → Int → Bool) : Int := ((List.range R).map fun (k : Nat) => ringPart R m g c (k : Int)).sum
def ringGentle (n roof : Nat) : Int := ringSum (roof + 1) (n - 1) (fun _ => softB) softB
theorem ok_ring_gentle {f fS : Addr} {fd fdS : FuncData} (G : Got K mg "ring_gentle_count" sRingGentle ["many", "roof"] f fd) (T : Txt mg) (D1 : Dfn P w K mg base 2 "need_many" ["many", "least"] spNeedMany) (D2 : Dfn P w K mg base 2 "need_roof" ["roof"] spNeedRoof)
    (D3 : Dfn P w K mg base 3 "grown" ["rows", "roof", "lets"] (spGrown P w K mg base)) (GS : Got K mg "is_soft" sIsSoft ["low", "high"] fS fdS) (D4 : Dfn P w K mg base 1 "is_soft" ["low", "high"] (spB softB)) : FnOk P w K mg base CX0 5 f fd ["many", "roof"] (spGentle 3 ringGentle) := by
  refine (G.F.ok scRingGentle (fun vs H Q E h => ?_) (fun cdv A outer s H vs Q E hr h => ?_))
  · obtain ⟨n, roof, rfl, _⟩ := h
    rfl
  · obtain ⟨n, roof, rfl, h3, h1, h40, r1, r9, q⟩ := h
    have FV := fv_of_got GS D4
    have hu := hu_of hr
    refine ⟨_, pss_cons (ps_expr (pe_cd D1 hr (by decide) (by rfl) (pa_cons (pv 0) (pa_cons pe_int pa_nil))))
      (pss_cons (ps_expr (pe_cd D2 hr (by decide) (by rfl) (pa_cons (pv 1) pa_nil)))
      (pss_cons (ps_set (i := 2) scRingGentle.nd rfl (.inl rfl) pe_int)
      (pss_cons (ps_for PassesOwn.never rfl (pi_range1 (by rfl) T.range (pa_cons (pe_op op_add (pv 1) pe_int) pa_nil)) (pg_name (i := 3) scRingGentle.nd rfl (.inr rfl))
        (pss_cons (ps_set (i := 4) scRingGentle.nd rfl (.inr rfl) (pe_disp (pps_cons (pv 3) pe_int pps_nil) (by rfl) (by rfl) (fun z => by cases z) (by decide)))
        (pss_cons (ps_for PassesOwn.never rfl (pi_range2 (by rfl) T.range (pa_cons pe_int (pa_cons (pv 0) pa_nil))) (pg_name (i := 5) scRingGentle.nd rfl (.inl rfl))
          (pss_one (ps_set (i := 4) scRingGentle.nd rfl (.inr rfl) (pe_cd D3 hr (by decide) (by rfl) (pa_cons (pv 4) (pa_cons (pv 1) (pa_cons (pe_glob (v := .ref fS) rfl GS.g rfl) pa_nil)))))))
        (pss_one (ps_aug (i := 2) scRingGentle.nd rfl (.inl rfl) (pe_callB (cr_sum rfl) (by rfl) T.sum (by decide +kernel) (pa_cons (pe_lock (pe_lc (own := [("last", 6)]) (g := gName 6) rfl scRingGentle.nd (pi_keysM (pv 4))
          (blkOk_by (N := ["many", "roof", "found", "first", "rows", "k", "last"]) (sc := defScope sRingGentle) (by decide +kernel))
          (fun _ _ _ _ _ => pg_name (i := 6) scRingGentle.nd rfl (.inl rfl))
          (fun _ _ _ _ _ => pts_one (pt_val (pe_cd D4 hr (by decide) (by rfl) (pa_cons (pv 3) (pa_cons (pv 6) pa_nil)))))
          (fun _ _ _ _ _ => pe_dget hu (pv 4) (pv 6) (fun _ _ => rfl)))) pa_nil)) ip_add)))))
      (pss_one (ps_ret (pv 2)))))), ?_⟩
    refine ⟨_, rfl, _, _, rfl, by omega, by omega, ?_⟩
    refine ⟨_, rfl, _, rfl, by omega, by omega, ?_⟩
    -- for first in range(roof + 1)
    refine ⟨_, rfl, _, _, rfl, rfl, (roof : Int) + 1, rfl, by omega, by omega, ?_⟩
    rw [show ((roof : Int) + 1).toNat = roof + 1 by omega]
    refine for_it (walk_range (lo := 0) (n := roof + 1)) (fun i σ H' => ∃ (y3 y4 y5 y6 : Option V), σ = [some (.int n), some (.int roof), some (.int (((List.range i).map fun (k : Nat) => ringPart (roof + 1) (n - 1) (fun _ => softB) softB (k : Int)).sum)), y3, y4, y5, y6] ∧ Same H H')
      ⟨none, none, none, none, rfl, Same.refl H⟩ (fun _ _ _ _ _ => trivial) ?_ ?_
    · rintro i x σ H1 H2 hi ⟨y3, y4, y5, y6, rfl, s1⟩ ⟨rfl, rfl⟩
      intro d nd
      refine ⟨_, rfl, upd_same, [(Sum.inl (0 + (i : Nat)), V.int 1)], rfl, by show 1 ≤ 15; decide, ?_⟩
      have s2 : Same H2 (upd (upd H2 d (.dK [])) d (.dK (kvI [(((i : Nat) : Int), 1)]))) := fun c o e => by
        rw [upd_upd]
        exact same_upd nd c o e
      have e0 : mergeK [] [((Sum.inl (0 + (i : Nat)) : Key), V.int 1)] = kvI [(((i : Nat) : Int), 1)] := by
        rw [show (0 : Int) + (i : Nat) = (i : Nat) by omega]
        rfl
      rw [e0]
      refine ⟨_, rfl, 1, (n : Int), rfl, ⟨by omega, by omega, by omega, by omega⟩, ?_⟩
      rw [show ((n : Int) - 1).toNat = n - 1 by omega]
      refine for_it (walk_range (lo := 1) (n := n - 1)) (fun j σ H' => ∃ (rr : Addr) (z5 z6 : Option V), σ = [some (.int n), some (.int roof), some (.int (((List.range i).map fun (k : Nat) => ringPart (roof + 1) (n - 1) (fun _ => softB) softB (k : Int)).sum)), some (.int (0 + (i : Nat))), some (.ref rr), z5, z6] ∧ Same H2 H' ∧ H' rr = some (.dK (kvI (rowsFrom [(((i : Nat) : Int), 1)] (roof + 1) (fun _ => softB) j))))
        ⟨d, y5, y6, rfl, s2, upd_same⟩ (fun _ _ _ _ _ => trivial) ?_ ?_
      · rintro j x σ H3 H4 hj ⟨rr, z5, z6, rfl, s3, err⟩ ⟨rfl, rfl⟩
        refine ⟨_, rfl, _, rfl, rr, fS, roof, rowsFrom [(((i : Nat) : Int), 1)] (roof + 1) (fun _ => softB) j, softB, _, rfl, by omega, err, rowsFrom_nodup (by simp) j, rowsFrom_len (by simp) (by omega) j, FvOk.mono FV (by decide), trivial, fun _ _ _ _ => trivial, fun H5 d5 s5 _ e5 => ?_⟩
        exact ⟨d5, _, _, rfl, s3.trans s5, e5⟩
      · rintro σ H3 ⟨rr, z5, z6, rfl, s3, err⟩
        have hnd : ((rowsFrom [(((i : Nat) : Int), 1)] (roof + 1) (fun _ => softB) (n - 1)).map (·.1)).Nodup := rowsFrom_nodup (by simp) _
        have hlen : (rowsFrom [(((i : Nat) : Int), 1)] (roof + 1) (fun _ => softB) (n - 1)).length ≤ 100 := rowsFrom_len (by simp) (by omega) _
        have hpart : ringPart (roof + 1) (n - 1) (fun _ => softB) softB ((i : Nat) : Int) = (((rowsFrom [(((i : Nat) : Int), 1)] (roof + 1) (fun _ => softB) (n - 1)).filter fun p => softB ((i : Nat) : Int) p.1).map (·.2)).sum := rfl
        generalize rowsFrom [(((i : Nat) : Int), 1)] (roof + 1) (fun _ => softB) (n - 1) = rows at err hnd hlen hpart
        refine ⟨_, rfl, rr, _, err, trivial, fun od => ?_⟩
        refine ⟨_, rfl, rr, od, kvI rows, rfl, upd_same, fun D hD => ?_⟩
        have nDr : D ≠ rr := fun z => by rw [z, upd_same] at hD; cases hD
        refine lc_it (walk_keys (d := rr) (o := od) (kvs := kvI rows)) (fun j H' => Same (upd H3 rr (.frz od (.dK (kvI rows)))) H' ∧ H' D = some (.lst ((((rows.take j).filter fun p => softB ((i : Nat) : Int) p.1).map (·.2)).map V.int)))
          ⟨same_upd hD, upd_same⟩ (fun j H' _ ⟨s2, _⟩ => s2 _ _ upd_same) ?_ ?_
        · rintro j x H5 H6 hj ⟨s5, eD⟩ ⟨rfl, k, v, hkv, rfl⟩
          rw [List.length_map] at hj
          have hp : rows[j]? = some rows[j] := List.getElem?_eq_getElem hj
          have hpm : rows[j] ∈ rows := List.getElem_mem hj
          generalize rows[j] = p at hp hpm
          rw [List.getElem?_map, hp] at hkv
          cases hkv
          refine ⟨rfl, ?_⟩
          refine ⟨_, rfl, _, rfl, 0 + (i : Nat), p.1, rfl, _, rfl, ?_⟩
          rw [show (0 : Int) + (i : Nat) = (i : Nat) by omega]
          have etk : rows.take (j + 1) = rows.take j ++ [p] := by rw [List.take_add_one, hp]; rfl
          have hfrz : H6 rr = some (.frz od (.dK (kvI rows))) := s5 _ _ upd_same
          cases eg : softB ((i : Nat) : Int) p.1 with
          | false =>
            refine iteF ⟨s5, ?_⟩
            rw [etk, List.filter_append, List.filter_cons_of_neg (by rw [eg]; exact Bool.false_ne_true), List.filter_nil, List.append_nil]
            exact eD
          | true =>
            refine iteT ⟨_, rfl, _, rfl, rr, V.int p.2, rfl, .inl ⟨kvI rows, Sum.inl p.1, .inr ⟨od, hfrz⟩, rfl, (valI_some hnd hpm).symm⟩, _, eD, ?_, ?_, ?_⟩
            · rw [List.length_map, List.length_map]
              have := List.length_filter_le (fun p : Int × Int => softB ((i : Nat) : Int) p.1) (rows.take j)
              rw [List.length_take] at this
              exact small1000 (by omega)
            · exact fun c o e => by
                rw [upd_ne (ne_of_none e hD)]
                exact s5 _ _ e
            · rw [upd_same, etk, List.filter_append, List.filter_cons_of_pos (p := fun p : Int × Int => softB ((i : Nat) : Int) p.1) eg, List.filter_nil, List.map_append, List.map_append]
              rfl
        · rintro H5 ⟨s5, eD⟩
          rw [List.length_map, List.take_length] at eD
          refine ⟨s5 _ _ upd_same, ?_⟩
          have s6 : Same H3 (upd H5 rr (.dK (kvI rows))) := fun c o e => by
            by_cases z : c = rr
            · rw [z, err] at e
              rw [z, upd_same, e]
            · rw [upd_ne z]
              exact s5 _ _ (by rw [upd_ne z]; exact e)
          refine ⟨D, _, rfl, SqL.of (by rw [upd_ne nDr]; exact eD), ?_⟩
          have esum : ((List.range (i + 1)).map fun (k : Nat) => ringPart (roof + 1) (n - 1) (fun _ => softB) softB (k : Int)).sum = ((List.range i).map fun (k : Nat) => ringPart (roof + 1) (n - 1) (fun _ => softB) softB (k : Int)).sum + ((rows.filter fun p => softB ((i : Nat) : Int) p.1).map (·.2)).sum := by
            rw [List.range_succ, List.map_append, ← hpart]
            exact sum_append_one _ _
          refine ⟨_, _, rfl, rfl, some (.int (0 + (i : Nat))), some (.ref rr), z5, z6, ?_, s1.trans (s3.trans s6)⟩
          rw [esum]
          rfl
    · rintro σ H1 ⟨y3, y4, y5, y6, rfl, s1⟩
      exact ⟨_, rfl, q H1 s1⟩
end
end Lv

namespace Lv
open PySem PySem.Spec PyProof.Rows L2 LamX NdefX LvL LvG LvM
/-! ### the two lambdas -/
def lamIn (s : Stmt) : Expr := match s with
  | .For _ _ [.Assign _ (.Call _ [_, _, l] _ _) _] _ _ => l
  | _ => .Constant .none 0 ⟨0, 0, 0, 0⟩
def forBody (s : Stmt) : List Stmt := match s with
  | .For _ _ b _ _ => b
  | _ => []
def lamP (e : Expr) : Arguments := match e with
  | .Lambda a _ _ _ => a
  | _ => { posonlyargs := [], args := [], vararg := none, kwonlyargs := [], kw_defaults := [], kwarg := none, defaults := [] }
def lamB (e : Expr) : Expr := match e with
  | .Lambda _ b _ _ => b
  | _ => .Constant .none 0 ⟨0, 0, 0, 0⟩
def lamS (e : Expr) : Scope := match e with
  | .Lambda _ _ s _ => s
  | _ => { kind := .function, names := [], isGenerator := false, isCoroutine := false }
def rowLam : Expr := lamIn ((defBody sRowCome).getD 2 (.Pass ⟨0, 0, 0, 0⟩))
def ringLam : Expr := lamIn ((forBody ((defBody sRingCome).getD 2 (.Pass ⟨0, 0, 0, 0⟩))).getD 1 (.Pass ⟨0, 0, 0, 0⟩))
theorem nsRow : NScope ["last", "here", "heights", "k"] ["last", "here"] ["heights", "k"] (lamS rowLam) := nscope_by (by decide +kernel)
theorem nsRing : NScope ["last", "here", "heights", "k"] ["last", "here"] ["heights", "k"] (lamS ringLam) := nscope_by (by decide +kernel)
theorem ndRow : ndefB (defScope sRowCome) (lamS rowLam) ["heights", "k"] = true := by decide +kernel
theorem ndRing : ndefB (defScope sRingCome) (lamS ringLam) ["heights", "k"] = true := by decide +kernel
def qRow : Str := ("row_come_count" : Str) ++ ".<locals>." ++ "<lambda>"
def qRing : Str := ("ring_come_count" : Str) ++ ".<locals>." ++ "<lambda>"
theorem atI_neg {xs : List V} {n : Nat} {v : V} (hn : xs.length = n + 1) (h : xs[n]? = some v) : atI xs (-1) = some v := by
  have e : xs = xs.take n ++ [v] := by
    have h1 : xs.take (n + 1) = xs.take n ++ [v] := by rw [List.take_add_one, h]; rfl
    rw [← h1, ← hn, List.take_length]
  rw [e]
  exact atI_last _ _
section
variable {P : Program} {w : World} {K : PySem.W.Frag} {mg : Str → Option Value} {base : Heap}
theorem okC {x qual : Str} {st : Stmt} {f : Addr} {fd : FuncData} {N ps : List Str} {k : Nat} {sp : Sp} (F : Fun K x qual st f fd) (S : FnScope N ps (defScope st)) (len : ∀ vs H Q E, sp vs H Q E → vs.length = ps.length)
    (hbody : ∀ (cdv : Value) (A : Around) (outer : List Env) (s : Shared) (H : Hp) (vs : List V) (Q : VK) (E : XK), fd.code = cdv → Room k (A.deeper (envOfC qual (defScope st) s.heap.objs.size f cdv)) → sp vs H Q E →
      ∃ t, PSs (cxOf CX0 P w K mg base N qual (defScope st) f cdv A outer s H E).nox (defBody st) t ∧ t { nx := fun _ H' => Q .non H', rt := Q } (L2.start N vs) H) : FnOk P w K mg base CX0 (k + 1) f fd ps sp := by
  obtain ⟨oc, od, kV, doc, pm, an, cdv, ct, osl, rfl, lk, hcd⟩ := F.ex
  refine fn_of lk hcd S len fun A outer s H vs Q E hr hsp => ?_
  obtain ⟨t, h, q⟩ := hbody cdv A outer s H vs Q E rfl hr hsp
  exact ⟨t, h.nox, q⟩
/-- what the lambda answers: the k-th place's way -/
def letsAt (hs : List Int) (k : Nat) (a b : Int) : Bool := fitsB a b (LvM.at_ hs (k - 1)) (LvM.at_ hs k)
theorem fv_row {f ha : Addr} {hs : List Int} {k : Nat} (D1 : Dfn P w K mg base 1 "fits" ["low", "high", "from_low", "from_high"] spFits) (hk : 1 ≤ k) (hk2 : k < hs.length) :
    FvOk P w K mg base 2 f (LamC (lamP rowLam) (lamB rowLam) (lamS rowLam) f ha (k : Int) (hs.map V.int)) (spB (letsAt hs k)) := by
  refine fv_lam nsRow (fun q cl pm cv ctv us hl => match us, hl with | [_, _], _ => rfl) fun F A outer s Hm Q i j hF hr hha q => ?_
  obtain ⟨q0, p0, b0, sc0, cl0, c0⟩ := F
  have hF : sc0 = lamS rowLam := hF
  subst hF
  refine ⟨_, pe_cd D1 hr (by decide) (by rfl) (pa_cons (pv 0) (pa_cons (pv 1) (pa_cons (pe_ix ix_tup (pv 2) (pe_op op_sub (pv 3) pe_int) (fun _ _ => rfl)) (pa_cons (pe_ix ix_tup (pv 2) (pv 3) (fun _ _ => rfl)) pa_nil)))), ?_⟩
  exact ⟨_, rfl, _, rfl, _, rfl, _, rfl, _, _, rfl, rfl, ha, _, _, _, rfl, rfl, SqT.of hha, at_of (j := k - 1) (by omega) (at_vint (at_getD (by omega))), _, rfl, _, rfl, ha, _, _, _, rfl, rfl, SqT.of hha, at_of (j := k) rfl (at_vint (at_getD hk2)), _, _, _, _, rfl, q⟩
theorem fv_ring {f ha : Addr} {hs : List Int} {k : Nat} (D1 : Dfn P w K mg base 1 "fits" ["low", "high", "from_low", "from_high"] spFits) (hk : 1 ≤ k) (hk2 : k < hs.length) :
    FvOk P w K mg base 2 f (LamC (lamP ringLam) (lamB ringLam) (lamS ringLam) f ha (k : Int) (hs.map V.int)) (spB (letsAt hs k)) := by
  refine fv_lam nsRing (fun q cl pm cv ctv us hl => match us, hl with | [_, _], _ => rfl) fun F A outer s Hm Q i j hF hr hha q => ?_
  obtain ⟨q0, p0, b0, sc0, cl0, c0⟩ := F
  have hF : sc0 = lamS ringLam := hF
  subst hF
  refine ⟨_, pe_cd D1 hr (by decide) (by rfl) (pa_cons (pv 0) (pa_cons (pv 1) (pa_cons (pe_ix ix_tup (pv 2) (pe_op op_sub (pv 3) pe_int) (fun _ _ => rfl)) (pa_cons (pe_ix ix_tup (pv 2) (pv 3) (fun _ _ => rfl)) pa_nil)))), ?_⟩
  exact ⟨_, rfl, _, rfl, _, rfl, _, rfl, _, _, rfl, rfl, ha, _, _, _, rfl, rfl, SqT.of hha, at_of (j := k - 1) (by omega) (at_vint (at_getD (by omega))), _, rfl, _, rfl, ha, _, _, _, rfl, rfl, SqT.of hha, at_of (j := k) rfl (at_vint (at_getD hk2)), _, _, _, _, rfl, q⟩
/-- the cells that such a lambda captures: heights and k alone -/
theorem clo_look {cells : List (Str × Addr)} {sc : Scope} {ch ck : Addr} (hsc : (sc.names.all fun y => !decide (y.2 = .free) || decide (y.1 = ("heights" : Str)) || decide (y.1 = ("k" : Str))) = true) (h1 : (("heights" : Str), NameKind.free) ∈ sc.names) (h2 : (("k" : Str), NameKind.free) ∈ sc.names)
    (lh : cells.lookup ("heights" : Str) = some ch) (lk : cells.lookup ("k" : Str) = some ck) :
    (cloFrom cells sc.names []).lookup ("heights" : Str) = some ch ∧ (cloFrom cells sc.names []).lookup ("k" : Str) = some ck ∧ ∀ y c, (cloFrom cells sc.names []).lookup y = some c → y = ("heights" : Str) ∨ y = ("k" : Str) := by
  have is : ∀ y ∈ sc.names, y.2 = .free → y.1 = ("heights" : Str) ∨ y.1 = ("k" : Str) := fun y hy e => by
    have q := List.all_eq_true.mp hsc y hy
    simp only [Bool.or_eq_true, Bool.not_eq_true', decide_eq_false_iff_not, decide_eq_true_eq] at q
    rcases q with (z | z) | z
    · exact absurd e z
    · exact .inl z
    · exact .inr z
  have hfree : ∀ y ∈ sc.names, y.2 = .free → ∃ c, cells.lookup y.1 = some c := fun y hy e => by
    rcases is y hy e with z | z
    · rw [z]; exact ⟨ch, lh⟩
    · rw [z]; exact ⟨ck, lk⟩
  refine ⟨clo_has hfree h1 lh, clo_has hfree h2 lk, fun y c e => ?_⟩
  rcases cloFrom_mem (PySem.mem_of_lookup e) with hm | ⟨hm, _⟩
  · cases hm
  · exact is (y, .free) hm rfl
/-- what stands behind a call under the shown cells -/
theorem out_some {H1 H' : Hp} {ch ck : Addr} {oh ok : HO} (nh : H1 ch = none) (nk : H1 ck = none) (s : Same (upd (upd H1 ch oh) ck ok) H') : ∀ b o, H1 b = some o → out2 H' ch ck b = some o := fun b o e => by
  have n1 := ne_of_none e nh
  have n2 := ne_of_none e nk
  rw [out2_ne n1 n2]
  exact s _ _ (by rw [upd_ne n2, upd_ne n1]; exact e)
/-! ### row_come_count -/
theorem scRowCome : FnScope ["many", "roof", "heights", "rows", "k", "height"] ["many", "roof", "heights"] (defScope sRowCome) := ⟨rfl, rfl, rfl, by decide +kernel, rfl, by decide +kernel, by decide +kernel⟩
def spCome (T2 : List (Addr × Str)) (least : Int) (res : Nat → Nat → List Int → Int) : Sp := fun vs H Q _ => ∃ (n roof : Nat) (a : Addr) (hs : List Int), vs = [.int n, .int roof, .ref a] ∧ 1 ≤ n ∧ RowOk n least roof H a hs ∧ Tabs T2 H ∧ ∀ H', ExtN H H' → Tabs T2 H' → Q (.int (res n roof hs)) H'
def rowCome (n roof : Nat) (hs : List Int) : Int := sumV (rowsFrom (ones (roof + 1)) (roof + 1) (letsAt hs) (n - 1))
theorem ok_row_come {f c1 P1 : Addr} {fd : FuncData} {T2 : List (Addr × Str)} (G : Got K mg "row_come_count" sRowCome ["many", "roof", "heights"] f fd) (hcode : fd.code = .ref c1) (TB : TabB base mg c1 P1) (hmT : (P1, qRow) ∈ T2) (huT : ∀ p ∈ T2, p.1 = P1 → p.2 = qRow) (T : Txt mg)
    (D1 : Dfn P w K mg base 3 "need_row" ["many", "least", "roof", "heights"] spNeedRow) (D3 : Dfn P w K mg base 3 "grown" ["rows", "roof", "lets"] (spGrown P w K mg base)) (D4 : Dfn P w K mg base 1 "fits" ["low", "high", "from_low", "from_high"] spFits) :
    FnOk P w K mg base CX0 5 f fd ["many", "roof", "heights"] (spCome T2 1 rowCome) := by
  refine (okC G.F scRowCome (fun vs H Q E h => ?_) (fun cdv A outer s H vs Q E hcdv hr h => ?_))
  · obtain ⟨n, roof, a, hs, rfl, _⟩ := h
    rfl
  · obtain ⟨n, roof, a, hs, rfl, h1, R, hT, q⟩ := h
    obtain ⟨fg, fdg, gg, okg, kpg, bg⟩ := D3.ex
    have ec : cdv = .ref c1 := hcdv.symm.trans hcode
    subst ec
    have hl := R.len
    have h40 := R.hi
    have r1 := R.r1
    have r9 := R.r9
    refine ⟨_, pss_cons (ps_expr (pe_cd D1 hr (by decide) (by rfl) (pa_cons (pv 0) (pa_cons pe_int (pa_cons (pv 1) (pa_cons (pv 2) pa_nil))))))
      (pss_cons (ps_set (i := 3) scRowCome.nd rfl (.inl rfl) (pe_callTy (call_dictP rfl) (by rfl) T.dict (by decide +kernel) (pa_cons (pe_lc (own := [("height", 5)]) (g := gName 5) (tt := tYes) rfl scRowCome.nd (pi_range1 (by rfl) T.range (pa_cons (pe_op op_add (pv 1) pe_int) pa_nil))
          (blkOk_by (N := ["many", "roof", "heights", "rows", "k", "height"]) (sc := defScope sRowCome) (by decide +kernel))
          (fun _ _ _ _ _ => pg_name (i := 5) scRowCome.nd rfl (.inl rfl))
          (fun _ _ _ _ _ => pts_nil)
          (fun _ _ _ _ _ => pe_tup (pa_cons (pv 5) (pa_cons pe_int pa_nil)))) pa_nil)))
      (pss_cons (ps_for PassesOwn.never rfl (pi_range2 (by rfl) T.range (pa_cons pe_int (pa_cons (pv 0) pa_nil))) (pg_name (i := 4) scRowCome.nd rfl (.inr rfl))
        (pss_one (ps_set (i := 3) scRowCome.nd rfl (.inl rfl) (pe_callC (iH := 2) (iK := 4) okg (hr.mono (by decide)) (by rfl) gg kpg bg rfl rfl rfl rfl (fun _ => rfl)
          (pa_cons (pv 3) (pa_cons (pv 1) (pa_cons (pe_lamE (T := T2) TB rfl hmT huT rfl (ndef_free ndRow)) pa_nil)))))))
      (pss_one (ps_ret (pe_callB (cr_sumV rfl) (by rfl) T.sum (by decide +kernel) (pa_cons (pe_vals (pv 3)) pa_nil)))))), ?_⟩
    refine ⟨_, rfl, _, rfl, _, rfl, _, _, _, a, hs, rfl, R, fun H0 s0 => ?_⟩
    have hT0 : Tabs T2 H0 := hT.ext s0
    have ha0 : HtAt H0 a hs := s0 _ _ R.at_
    -- rows = dict(..)
    refine ⟨_, rfl, _, _, rfl, rfl, (roof : Int) + 1, rfl, by omega, by omega, fun D hD => ?_⟩
    rw [show ((roof : Int) + 1).toNat = roof + 1 by omega]
    refine lc_it (walk_range (lo := 0) (n := roof + 1)) (fun i H' => Same H0 H' ∧ ∃ rs : List Addr, H' D = some (.lst (rs.map V.ref)) ∧ PrAt H' rs (ones i))
      ⟨same_upd hD, [], upd_same, .nil⟩ (fun _ _ _ _ => trivial) ?_ ?_
    · rintro i x H1 H2 hi ⟨s1, rs, eD, hrs⟩ ⟨rfl, rfl⟩
      refine ⟨rfl, tyes (iteT ?_)⟩
      refine ⟨_, rfl, by show 2 ≤ sizeLine; decide, fun t nt => ?_⟩
      have nDt : D ≠ t := ne_of_none eD nt
      have s2 := s1.trans (same_upd (o := .tup [.int (0 + (i : Nat)), .int 1]) nt)
      have hrl := hrs.len
      rw [ones_len] at hrl
      refine ⟨_, (by rw [upd_ne nDt]; exact eD), ?_, ?_, rs ++ [t], ?_, ?_⟩
      · rw [List.length_map, hrl]
        exact small1000 (by omega)
      · exact fun c o e => by
          rw [upd_ne (ne_of_none e hD)]
          exact s2 _ _ e
      · rw [upd_same, List.map_append]
        rfl
      · have a1 : PrAt (upd H2 t (.tup [.int (0 + (i : Nat)), .int 1])) (rs ++ [t]) (ones i ++ [((i : Int), (1 : Int))]) := by
          refine PrAt.snoc (hrs.same (same_upd nt)) ?_
          rw [upd_same]
          unfold prV
          simp
        have e9 : ones (i + 1) = ones i ++ [((i : Int), (1 : Int))] := by
          unfold ones
          rw [List.range_succ, List.map_append]
          rfl
        rw [e9]
        exact a1.upd fun p z => by
          rw [upd_ne nDt, eD] at z
          exact prV_ne _ _ z
    · rintro H1 ⟨s1, rs, eD, hrs⟩
      refine ⟨D, rs, kvI (ones (roof + 1)), rfl, SqL.of eD, paired_pr hrs, fun d nd => ?_⟩
      rw [mergeK_nil (ones_nodup _)]
      have s2 := s1.trans (same_upd (o := .dK (kvI (ones (roof + 1)))) nd)
      -- for k in range(1, many)
      refine ⟨_, rfl, 1, (n : Int), rfl, ⟨by omega, by omega, by omega, by omega⟩, ?_⟩
      rw [show ((n : Int) - 1).toNat = n - 1 by omega]
      refine for_it (walk_range (lo := 1) (n := n - 1)) (fun i σ H' => ∃ (rr : Addr) (y4 y5 : Option V), σ = [some (.int n), some (.int roof), some (.ref a), some (.ref rr), y4, y5] ∧ ExtN H0 H' ∧ Tabs T2 H' ∧ H' rr = some (.dK (kvI (rowsFrom (ones (roof + 1)) (roof + 1) (letsAt hs) i))))
        ⟨d, none, none, rfl, ExtN.of s2, hT0.ext s2, upd_same⟩ (fun _ _ _ _ _ => trivial) ?_ ?_
      · rintro i x σ H3 H4 hi ⟨rr, y4, y5, rfl, s3, hT3, err⟩ ⟨rfl, rfl⟩
        refine ⟨_, rfl, _, rfl, hT3, fun fl c' H5 eN nn hT5 hf f1 c1 => ?_⟩
        refine ⟨.ref a, .int (1 + (i : Nat)), rfl, rfl, fun ch ck oh ok lh lk nh nk nhk => ?_⟩
        have ha5 : HtAt H5 a hs := eN _ _ (s3 _ _ ha0 (fun _ z => nomatch z)) (fun _ z => nomatch z)
        have err5 := eN _ _ err (fun _ z => nomatch z)
        obtain ⟨l1, l2, l3⟩ := clo_look (sc := lamS rowLam) (by decide +kernel) (by decide +kernel) (by decide +kernel) lh lk
        have keep : ∀ b o, H5 b = some o → upd (upd H5 ch (CelO ch oh (.ref a))) ck (CelO ck ok (.int (1 + (i : Nat)))) b = some o := fun b o e => by
          rw [upd_ne (ne_of_none e nk), upd_ne (ne_of_none e nh)]
          exact e
        refine ⟨rr, fl, roof, rowsFrom (ones (roof + 1)) (roof + 1) (letsAt hs) i, letsAt hs (i + 1), LamC (lamP rowLam) (lamB rowLam) (lamS rowLam) fl a ((i + 1 : Nat) : Int) (hs.map V.int), rfl, by omega, keep _ _ err5, rowsFrom_nodup (ones_nodup _) i, rowsFrom_len (by rw [ones_len]; omega) (by omega) i,
          fv_row D4 (by omega) (by omega), ⟨⟨_, ch, ck, oh, ok, rfl, rfl, rfl, keep _ _ f1, keep _ _ c1, l1, l2, nhk, l3, ?_, ?_⟩, keep _ _ ha5⟩, fun H6 H7 sF hL => hL.same sF, fun H6 d6 s6 nd6 e6 => ⟨?_, ?_, ?_⟩⟩
        · rw [upd_ne nhk, upd_same]
        · rw [upd_same, show ((i + 1 : Nat) : Int) = 1 + (i : Nat) by omega]
        · exact s6 _ _ (by rw [upd_ne nhk, upd_same])
        · exact s6 _ _ (by rw [upd_same])
        · have os := out_some nh nk s6
          refine ⟨d6, _, _, rfl, fun b o e ht => os _ _ (eN _ _ (s3 _ _ e ht) ht), hT5.ext os, ?_⟩
          have n1 : d6 ≠ ch := fun z => by rw [z, upd_ne nhk, upd_same] at nd6; cases nd6
          have n2 : d6 ≠ ck := fun z => by rw [z, upd_same] at nd6; cases nd6
          rw [out2_ne n1 n2]
          exact e6
      · rintro σ H3 ⟨rr, y4, y5, rfl, s3, hT3, err⟩
        refine ⟨_, rfl, rr, _, rfl, err, fun p np => ?_⟩
        have s4 : Same H3 (upd H3 p (viewO p rr)) := same_upd np
        exact ⟨p, rr, _, _, rfl, upd_same, s4 _ _ err, kvI_snd _, q _ (fun b o e ht => s4 _ _ (s3 _ _ (s0 _ _ e) ht)) (hT3.ext s4)⟩
end
end Lv

namespace Lv
open PySem PySem.Spec PyProof.Rows L2 LamX NdefX LvL LvG LvM
section
variable {P : Program} {w : World} {K : PySem.W.Frag} {mg : Str → Option Value} {base : Heap}
/-! ### ring_come_count -/
theorem scRingCome : FnScope ["many", "roof", "heights", "found", "first", "rows", "k", "last"] ["many", "roof", "heights"] (defScope sRingCome) := ⟨rfl, rfl, rfl, by decide +kernel, rfl, by decide +kernel, by decide +kernel⟩
def closeB (hs : List Int) (n : Nat) (a b : Int) : Bool := fitsB a b (LvM.at_ hs 0) (LvM.at_ hs (n - 1))
def ringCome (n roof : Nat) (hs : List Int) : Int := ringSum (roof + 1) (n - 1) (letsAt hs) (closeB hs n)
theorem ok_ring_come {f c1 P1 : Addr} {fd : FuncData} {T2 : List (Addr × Str)} (G : Got K mg "ring_come_count" sRingCome ["many", "roof", "heights"] f fd) (hcode : fd.code = .ref c1) (TB : TabB base mg c1 P1) (hmT : (P1, qRing) ∈ T2) (huT : ∀ p ∈ T2, p.1 = P1 → p.2 = qRing) (T : Txt mg)
    (D1 : Dfn P w K mg base 3 "need_row" ["many", "least", "roof", "heights"] spNeedRow) (D3 : Dfn P w K mg base 3 "grown" ["rows", "roof", "lets"] (spGrown P w K mg base)) (D4 : Dfn P w K mg base 1 "fits" ["low", "high", "from_low", "from_high"] spFits) :
    FnOk P w K mg base CX0 5 f fd ["many", "roof", "heights"] (spCome T2 3 ringCome) := by
  refine (okC G.F scRingCome (fun vs H Q E h => ?_) (fun cdv A outer s H vs Q E hcdv hr h => ?_))
  · obtain ⟨n, roof, a, hs, rfl, _⟩ := h
    rfl
  · obtain ⟨n, roof, a, hs, rfl, h1, R, hT, q⟩ := h
    obtain ⟨fg, fdg, gg, okg, kpg, bg⟩ := D3.ex
    have ec : cdv = .ref c1 := hcdv.symm.trans hcode
    subst ec
    have hl := R.len
    have h40 := R.hi
    have r1 := R.r1
    have r9 := R.r9
    have h3 := R.lo
    have hu := hu_of hr
    refine ⟨_, pss_cons (ps_expr (pe_cd D1 hr (by decide) (by rfl) (pa_cons (pv 0) (pa_cons pe_int (pa_cons (pv 1) (pa_cons (pv 2) pa_nil))))))
      (pss_cons (ps_set (i := 3) scRingCome.nd rfl (.inl rfl) pe_int)
      (pss_cons (ps_for PassesOwn.never rfl (pi_range1 (by rfl) T.range (pa_cons (pe_op op_add (pv 1) pe_int) pa_nil)) (pg_name (i := 4) scRingCome.nd rfl (.inr rfl))
        (pss_cons (ps_set (i := 5) scRingCome.nd rfl (.inr rfl) (pe_disp (pps_cons (pv 4) pe_int pps_nil) (by rfl) (by rfl) (fun z => by cases z) (by decide)))
        (pss_cons (ps_for PassesOwn.never rfl (pi_range2 (by rfl) T.range (pa_cons pe_int (pa_cons (pv 0) pa_nil))) (pg_name (i := 6) scRingCome.nd rfl (.inr rfl))
          (pss_one (ps_set (i := 5) scRingCome.nd rfl (.inr rfl) (pe_callC (iH := 2) (iK := 6) okg (hr.mono (by decide)) (by rfl) gg kpg bg rfl rfl rfl rfl (fun _ => rfl)
            (pa_cons (pv 5) (pa_cons (pv 1) (pa_cons (pe_lamE (T := T2) TB rfl hmT huT rfl (ndef_free ndRing)) pa_nil)))))))
        (pss_one (ps_aug (i := 3) scRingCome.nd rfl (.inl rfl) (pe_callB (cr_sum rfl) (by rfl) T.sum (by decide +kernel) (pa_cons (pe_lock (pe_lc (own := [("last", 7)]) (g := gName 7) rfl scRingCome.nd (pi_keysM (pv 5))
          (blkOk_by (N := ["many", "roof", "heights", "found", "first", "rows", "k", "last"]) (sc := defScope sRingCome) (by decide +kernel))
          (fun _ _ _ _ _ => pg_name (i := 7) scRingCome.nd rfl (.inl rfl))
          (fun _ _ _ _ _ => pts_one (pt_val (pe_cd D4 hr (by decide) (by rfl) (pa_cons (pv 4) (pa_cons (pv 7) (pa_cons (pe_ix (r := rIxT K) ix_tup (pv 2) pe_int (fun _ _ => rfl)) (pa_cons (pe_ix (r := rIxT K) ix_tup (pv 2) (pe_un un_neg pe_int) (fun _ _ => rfl)) pa_nil)))))))
          (fun _ _ _ _ _ => pe_dget hu (pv 5) (pv 7) (fun _ _ => rfl)))) pa_nil)) ip_add)))))
      (pss_one (ps_ret (pv 3))))), ?_⟩
    refine ⟨_, rfl, _, rfl, _, rfl, _, _, _, a, hs, rfl, R, fun H0 s0 => ?_⟩
    have hT0 : Tabs T2 H0 := hT.ext s0
    have ha0 : HtAt H0 a hs := s0 _ _ R.at_
    -- for first in range(roof + 1)
    refine ⟨_, rfl, _, _, rfl, rfl, (roof : Int) + 1, rfl, by omega, by omega, ?_⟩
    rw [show ((roof : Int) + 1).toNat = roof + 1 by omega]
    refine for_it (walk_range (lo := 0) (n := roof + 1)) (fun i σ H' => ∃ (y4 y5 y6 y7 : Option V), σ = [some (.int n), some (.int roof), some (.ref a), some (.int (((List.range i).map fun (k : Nat) => ringPart (roof + 1) (n - 1) (letsAt hs) (closeB hs n) (k : Int)).sum)), y4, y5, y6, y7] ∧ ExtN H0 H' ∧ Tabs T2 H')
      ⟨none, none, none, none, rfl, ExtN.refl H0, hT0⟩ (fun _ _ _ _ _ => trivial) ?_ ?_
    · rintro i x σ H1 H2 hi ⟨y4, y5, y6, y7, rfl, s1, hT1⟩ ⟨rfl, rfl⟩
      intro d nd
      refine ⟨_, rfl, upd_same, [(Sum.inl (0 + (i : Nat)), V.int 1)], rfl, by show 1 ≤ 15; decide, ?_⟩
      have s2 : Same H2 (upd (upd H2 d (.dK [])) d (.dK (kvI [(((i : Nat) : Int), 1)]))) := fun c o e => by
        rw [upd_upd]
        exact same_upd nd c o e
      have e0 : mergeK [] [((Sum.inl (0 + (i : Nat)) : Key), V.int 1)] = kvI [(((i : Nat) : Int), 1)] := by
        rw [show (0 : Int) + (i : Nat) = (i : Nat) by omega]
        rfl
      rw [e0]
      refine ⟨_, rfl, 1, (n : Int), rfl, ⟨by omega, by omega, by omega, by omega⟩, ?_⟩
      rw [show ((n : Int) - 1).toNat = n - 1 by omega]
      refine for_it (walk_range (lo := 1) (n := n - 1)) (fun j σ H' => ∃ (rr : Addr) (z6 z7 : Option V), σ = [some (.int n), some (.int roof), some (.ref a), some (.int (((List.range i).map fun (k : Nat) => ringPart (roof + 1) (n - 1) (letsAt hs) (closeB hs n) (k : Int)).sum)), some (.int (0 + (i : Nat))), some (.ref rr), z6, z7] ∧ ExtN H0 H' ∧ Tabs T2 H' ∧ H' rr = some (.dK (kvI (rowsFrom [(((i : Nat) : Int), 1)] (roof + 1) (letsAt hs) j))))
        ⟨d, y6, y7, rfl, s1.trans (ExtN.of s2), hT1.ext s2, upd_same⟩ (fun _ _ _ _ _ => trivial) ?_ ?_
      · rintro j x σ H3 H4 hj ⟨rr, z6, z7, rfl, s3, hT3, err⟩ ⟨rfl, rfl⟩
        refine ⟨_, rfl, _, rfl, hT3, fun fl c' H5 eN nn hT5 hf f1 c1 => ?_⟩
        refine ⟨.ref a, .int (1 + (j : Nat)), rfl, rfl, fun ch ck oh ok lh lk nh nk nhk => ?_⟩
        have ha5 : HtAt H5 a hs := eN _ _ (s3 _ _ ha0 (fun _ z => nomatch z)) (fun _ z => nomatch z)
        have err5 := eN _ _ err (fun _ z => nomatch z)
        obtain ⟨l1, l2, l3⟩ := clo_look (sc := lamS ringLam) (by decide +kernel) (by decide +kernel) (by decide +kernel) lh lk
        have keep : ∀ b o, H5 b = some o → upd (upd H5 ch (CelO ch oh (.ref a))) ck (CelO ck ok (.int (1 + (j : Nat)))) b = some o := fun b o e => by
          rw [upd_ne (ne_of_none e nk), upd_ne (ne_of_none e nh)]
          exact e
        refine ⟨rr, fl, roof, rowsFrom [(((i : Nat) : Int), 1)] (roof + 1) (letsAt hs) j, letsAt hs (j + 1), LamC (lamP ringLam) (lamB ringLam) (lamS ringLam) fl a ((j + 1 : Nat) : Int) (hs.map V.int), rfl, by omega, keep _ _ err5, rowsFrom_nodup (by simp) j, rowsFrom_len (by simp) (by omega) j,
          fv_ring D4 (by omega) (by omega), ⟨⟨_, ch, ck, oh, ok, rfl, rfl, rfl, keep _ _ f1, keep _ _ c1, l1, l2, nhk, l3, ?_, ?_⟩, keep _ _ ha5⟩, fun H6 H7 sF hL => hL.same sF, fun H6 d6 s6 nd6 e6 => ⟨?_, ?_, ?_⟩⟩
        · rw [upd_ne nhk, upd_same]
        · rw [upd_same, show ((j + 1 : Nat) : Int) = 1 + (j : Nat) by omega]
        · exact s6 _ _ (by rw [upd_ne nhk, upd_same])
        · exact s6 _ _ (by rw [upd_same])
        · have os := out_some nh nk s6
          refine ⟨d6, _, _, rfl, fun b o e ht => os _ _ (eN _ _ (s3 _ _ e ht) ht), hT5.ext os, ?_⟩
          have n1 : d6 ≠ ch := fun z => by rw [z, upd_ne nhk, upd_same] at nd6; cases nd6
          have n2 : d6 ≠ ck := fun z => by rw [z, upd_same] at nd6; cases nd6
          rw [out2_ne n1 n2]
          exact e6
      · rintro σ H3 ⟨rr, z6, z7, rfl, s3, hT3, err⟩
        have ha3 : HtAt H3 a hs := s3 _ _ ha0 (fun _ z => nomatch z)
        have hnd : ((rowsFrom [(((i : Nat) : Int), 1)] (roof + 1) (letsAt hs) (n - 1)).map (·.1)).Nodup := rowsFrom_nodup (by simp) _
        have hlen : (rowsFrom [(((i : Nat) : Int), 1)] (roof + 1) (letsAt hs) (n - 1)).length ≤ 100 := rowsFrom_len (by simp) (by omega) _
        have hpart : ringPart (roof + 1) (n - 1) (letsAt hs) (closeB hs n) ((i : Nat) : Int) = (((rowsFrom [(((i : Nat) : Int), 1)] (roof + 1) (letsAt hs) (n - 1)).filter fun p => closeB hs n ((i : Nat) : Int) p.1).map (·.2)).sum := rfl
        generalize rowsFrom [(((i : Nat) : Int), 1)] (roof + 1) (letsAt hs) (n - 1) = rows at err hnd hlen hpart
        refine ⟨_, rfl, rr, _, err, trivial, fun od => ?_⟩
        refine ⟨_, rfl, rr, od, kvI rows, rfl, upd_same, fun D hD => ?_⟩
        have nDr : D ≠ rr := fun z => by rw [z, upd_same] at hD; cases hD
        have har : HtAt (upd H3 rr (.frz od (.dK (kvI rows)))) a hs := (SameF.upd_dK err).t _ _ ha3
        refine lc_it (walk_keys (d := rr) (o := od) (kvs := kvI rows)) (fun j H' => Same (upd H3 rr (.frz od (.dK (kvI rows)))) H' ∧ H' D = some (.lst ((((rows.take j).filter fun p => closeB hs n ((i : Nat) : Int) p.1).map (·.2)).map V.int)))
          ⟨same_upd hD, upd_same⟩ (fun j H' _ ⟨s2, _⟩ => s2 _ _ upd_same) ?_ ?_
        · rintro j x H5 H6 hj ⟨s5, eD⟩ ⟨rfl, k, v, hkv, rfl⟩
          rw [List.length_map] at hj
          have hp : rows[j]? = some rows[j] := List.getElem?_eq_getElem hj
          have hpm : rows[j] ∈ rows := List.getElem_mem hj
          generalize rows[j] = p at hp hpm
          rw [List.getElem?_map, hp] at hkv
          cases hkv
          have ha6 : HtAt H6 a hs := s5 _ _ har
          refine ⟨rfl, ?_⟩
          refine ⟨_, rfl, _, rfl, _, rfl, a, _, _, _, rfl, rfl, SqT.of ha6, at_of (j := 0) rfl (at_vint (at_getD (by omega))), _, rfl, 1, rfl, a, _, _, _, rfl, rfl, SqT.of ha6, atI_neg (n := n - 1) (by rw [List.length_map]; omega) (at_vint (at_getD (by omega))), 0 + (i : Nat), p.1, _, _, rfl, _, rfl, ?_⟩
          rw [show (0 : Int) + (i : Nat) = (i : Nat) by omega]
          have etk : rows.take (j + 1) = rows.take j ++ [p] := by rw [List.take_add_one, hp]; rfl
          have hfrz : H6 rr = some (.frz od (.dK (kvI rows))) := s5 _ _ upd_same
          have ecl : fitsB ((i : Nat) : Int) p.1 (LvM.at_ hs 0) (LvM.at_ hs (n - 1)) = closeB hs n ((i : Nat) : Int) p.1 := rfl
          rw [ecl]
          cases eg : closeB hs n ((i : Nat) : Int) p.1 with
          | false =>
            refine iteF ⟨s5, ?_⟩
            rw [etk, List.filter_append, List.filter_cons_of_neg (by rw [eg]; exact Bool.false_ne_true), List.filter_nil, List.append_nil]
            exact eD
          | true =>
            refine iteT ⟨_, rfl, _, rfl, rr, V.int p.2, rfl, .inl ⟨kvI rows, Sum.inl p.1, .inr ⟨od, hfrz⟩, rfl, (valI_some hnd hpm).symm⟩, _, eD, ?_, ?_, ?_⟩
            · rw [List.length_map, List.length_map]
              have := List.length_filter_le (fun p : Int × Int => closeB hs n ((i : Nat) : Int) p.1) (rows.take j)
              rw [List.length_take] at this
              exact small1000 (by omega)
            · exact fun c o e => by
                rw [upd_ne (ne_of_none e hD)]
                exact s5 _ _ e
            · rw [upd_same, etk, List.filter_append, List.filter_cons_of_pos (p := fun p : Int × Int => closeB hs n ((i : Nat) : Int) p.1) eg, List.filter_nil, List.map_append, List.map_append]
              rfl
        · rintro H5 ⟨s5, eD⟩
          rw [List.length_map, List.take_length] at eD
          refine ⟨s5 _ _ upd_same, ?_⟩
          have s6 : Same H3 (upd H5 rr (.dK (kvI rows))) := fun c o e => by
            by_cases z : c = rr
            · rw [z, err] at e
              rw [z, upd_same, e]
            · rw [upd_ne z]
              exact s5 _ _ (by rw [upd_ne z]; exact e)
          refine ⟨D, _, rfl, SqL.of (by rw [upd_ne nDr]; exact eD), ?_⟩
          have esum : ((List.range (i + 1)).map fun (k : Nat) => ringPart (roof + 1) (n - 1) (letsAt hs) (closeB hs n) (k : Int)).sum = ((List.range i).map fun (k : Nat) => ringPart (roof + 1) (n - 1) (letsAt hs) (closeB hs n) (k : Int)).sum + ((rows.filter fun p => closeB hs n ((i : Nat) : Int) p.1).map (·.2)).sum := by
            rw [List.range_succ, List.map_append, ← hpart]
            exact sum_append_one _ _
          refine ⟨_, _, rfl, rfl, some (.int (0 + (i : Nat))), some (.ref rr), z6, z7, ?_, s3.trans (ExtN.of s6), hT3.ext s6⟩
          rw [esum]
          rfl
    · rintro σ H1 ⟨y4, y5, y6, y7, rfl, s1, hT1⟩
      exact ⟨_, rfl, q H1 (fun b o e ht => s1 _ _ (s0 _ _ e) ht) hT1⟩
end
end Lv

namespace Lv
open PySem PySem.Spec PyProof.Rows L2 LamX NdefX LvL LvG LvM
/-- all but p stays -/
def SameB (p : Addr) (H H' : Hp) : Prop := ∀ b o, b ≠ p → H b = some o → H' b = some o
theorem SameB.refl {p : Addr} {H : Hp} : SameB p H H := fun _ _ _ e => e
theorem SameB.trans {p : Addr} {H H1 H2 : Hp} (a : SameB p H H1) (b : SameB p H1 H2) : SameB p H H2 := fun c o n e => b c o n (a c o n e)
theorem SameB.of {p : Addr} {H H' : Hp} (a : Same H H') : SameB p H H' := fun c o _ e => a c o e
theorem SameB.upd {p : Addr} {H : Hp} {o : HO} : SameB p H (L2.upd H p o) := fun c u n e => by rw [upd_ne n]; exact e
/-- the draws' list: the script, how many are taken, the mixed number, the rest -/
structure RowH (K : PySem.W.Frag) (a : Addr) (ns : List Int) (p : Addr) (H : Hp) : Prop where
  at_ : ∃ i x c : Int, H p = some (.lst [.ref a, .int i, .int x, .int c]) ∧ 0 ≤ i ∧ 0 ≤ x ∧ x < 2147483647
  sc : SqL K H a (ns.map V.int)
theorem vint_ne (ns : List Int) (a : Addr) (l : List V) : ns.map V.int ≠ V.ref a :: l := fun z => by
  cases ns with
  | nil => cases z
  | cons n r => cases z
theorem sc_same {K : PySem.W.Frag} {H H' : Hp} {a p : Addr} {ns : List Int} {l : List V} (h : SqL K H a (ns.map V.int)) (hp : H p = some (.lst (.ref a :: l))) (s : SameB p H H') : SqL K H' a (ns.map V.int) := by
  rcases h with (h | ⟨o, h⟩) | h
  · refine .inl (.inl (s _ _ (fun z => ?_) h))
    rw [z, hp] at h
    exact vint_ne ns a l (HO.lst.inj (Option.some.inj h)).symm
  · refine .inl (.inr ⟨o, s _ _ (fun z => ?_) h⟩)
    rw [z, hp] at h
    cases h
  · exact .inr h
theorem RowH.same {K : PySem.W.Frag} {a p : Addr} {ns : List Int} {H H' : Hp} (R : RowH K a ns p H) (s : Same H H') : RowH K a ns p H' := by
  obtain ⟨i, x, c, h, r⟩ := R.at_
  exact ⟨⟨i, x, c, s _ _ h, r⟩, s.seq R.sc⟩
theorem RowH.lst {K : PySem.W.Frag} {a p : Addr} {ns : List Int} {H : Hp} (R : RowH K a ns p H) : ∃ l, H p = some (.lst (.ref a :: l)) := by
  obtain ⟨i, x, c, h, r⟩ := R.at_
  exact ⟨_, h⟩
section
variable {P : Program} {w : World} {K : PySem.W.Frag} {mg : Str → Option Value} {base : Heap}
/-! ### _law_taken -/
theorem scTaken : FnScope ["_law_row_here", "_law_many_here", "_law_found", "_law_cell"] ["_law_row_here", "_law_many_here"] (defScope sTaken) := ⟨rfl, rfl, rfl, by decide +kernel, rfl, by decide +kernel, by decide +kernel⟩
def spTaken (K : PySem.W.Frag) : Sp := fun vs H Q _ => ∃ (p a : Addr) (ns : List Int) (m : Int), vs = [.ref p, .int m] ∧ RowH K a ns p H ∧ 1 ≤ m ∧ m < 1000 ∧ ∀ H' v, SameB p H H' → RowH K a ns p H' → 0 ≤ v → v < m → Q (.int v) H'
theorem fmod_bd (a : Int) {m : Int} (h : 1 ≤ m) : 0 ≤ a.fmod m ∧ a.fmod m < m := by
  rw [Int.fmod_eq_emod_of_nonneg a (by omega)]
  exact ⟨Int.emod_nonneg _ (by omega), Int.emod_lt_of_pos _ (by omega)⟩
theorem ok_taken {f : Addr} {fd : FuncData} (G : Got K mg "_law_taken" sTaken ["_law_row_here", "_law_many_here"] f fd) (T : Txt mg) : Dfn P w K mg base 1 "_law_taken" ["_law_row_here", "_law_many_here"] (spTaken K) := by
  refine G.dfn (G.F.ok scTaken (fun vs H Q E h => ?_) (fun cdv A outer s H vs Q E hr h => ?_))
  · obtain ⟨p, a, ns, m, rfl, _⟩ := h
    rfl
  · obtain ⟨p, a, ns, m, rfl, R, h1, h2, q⟩ := h
    obtain ⟨⟨i, x, c, hp, hi, hx, hx2⟩, sc⟩ := id R
    refine ⟨_, pss_cons (ps_if (pt_cmpR op_gt (pe_ix (r := rIxL K) ix_list (pv 0) pe_int (fun _ _ => rfl)) pe_int (nomark _))
        (pss_cons (ps_set (i := 2) scTaken.nd rfl (.inl rfl) (pe_op op_modN (pe_callTy call_int1 (by rfl) T.int (by decide +kernel) (pa_cons (pe_ix (r := rIxL K) ix_list (pv 0) pe_int (fun _ _ => rfl)) pa_nil)) (pv 1)))
        (pss_cons (ps_asg (pe_op op_fdivN (pe_ix (r := rIxL K) ix_list (pv 0) pe_int (fun _ _ => rfl)) (pv 1)) (pg_sub (pv 0) pe_int set_list))
        (pss_one (ps_ret (pv 2))))) pss_nil)
      (pss_cons (ps_asg (pe_op op_add (pe_ix (r := rIxL K) ix_list (pv 0) pe_int (fun _ _ => rfl)) pe_int) (pg_sub (pv 0) pe_int set_list))
      (pss_cons (ps_if (pt_cmpR op_gt (pe_ix (r := rIxL K) ix_list (pv 0) pe_int (fun _ _ => rfl)) (pe_callB call_len_seq (by rfl) T.len PySem.boot_len (pa_cons (pe_ix (r := rIxL K) ix_list (pv 0) pe_int (fun _ _ => rfl)) pa_nil)) (nomark _))
        (pss_cons (ps_asg (pe_op op_modN (pe_callTy call_int1 (by rfl) T.int (by decide +kernel) (pa_cons (pe_op op_add (pe_op op_mul (pe_ix (r := rIxL K) ix_list (pv 0) pe_int (fun _ _ => rfl)) pe_int) pe_int) pa_nil)) pe_int) (pg_sub (pv 0) pe_int set_list))
        (pss_one (ps_ret (pe_op op_modN (pe_callTy call_int1 (by rfl) T.int (by decide +kernel) (pa_cons (pe_op op_fdivN (pe_ix (r := rIxL K) ix_list (pv 0) pe_int (fun _ _ => rfl)) pe_int) pa_nil)) (pv 1))))) pss_nil)
      (pss_cons (ps_set (i := 3) scTaken.nd rfl (.inl rfl) (pe_ix (r := rIxL K) ix_list (pe_ix (r := rIxL K) ix_list (pv 0) pe_int (fun _ _ => rfl)) (pe_op op_sub (pe_ix (r := rIxL K) ix_list (pv 0) pe_int (fun _ _ => rfl)) pe_int) (fun _ _ => rfl)))
      (pss_cons (ps_asg (pe_op op_modN (pe_callTy call_int1 (by rfl) T.int (by decide +kernel) (pa_cons (pe_op op_add (pe_op op_add (pe_op op_mul (pe_ix (r := rIxL K) ix_list (pv 0) pe_int (fun _ _ => rfl)) pe_int) (pv 3)) pe_int) pa_nil)) pe_int) (pg_sub (pv 0) pe_int set_list))
      (pss_cons (ps_if (pt_cmpR op_ge (pv 3) (pe_op op_pow pe_int pe_int) (nomark _)) (pss_one (ps_asg (pe_op op_fdivN (pv 3) (pv 1)) (pg_sub (pv 0) pe_int set_list))) pss_nil)
      (pss_one (ps_ret (pe_op op_modN (pe_callTy call_int1 (by rfl) T.int (by decide +kernel) (pa_cons (pv 3) pa_nil)) (pv 1))))))))), ?_⟩
    -- row[3] > 0
    refine ⟨_, rfl, p, _, _, _, rfl, rfl, SqL.of hp, atI_nat (j := 3) rfl, _, _, rfl, rfl, _, rfl, ite2 (fun e => ?_) (fun e => ?_)⟩
    · refine ⟨_, rfl, p, _, _, _, rfl, rfl, SqL.of hp, atI_nat (j := 3) rfl, .inl ⟨_, rfl, _, rfl, _, _, rfl, rfl, by omega, ?_⟩⟩
      refine ⟨_, rfl, p, _, _, _, rfl, rfl, SqL.of hp, atI_nat (j := 3) rfl, _, rfl, _, _, rfl, rfl, ⟨by omega, by omega⟩, _, rfl, p, _, _, 3, rfl, rfl, hp, rfl, ?_⟩
      obtain ⟨f1, f2⟩ := fmod_bd c h1
      exact ⟨_, rfl, q _ _ SameB.upd ⟨⟨_, _, _, upd_same, hi, hx, hx2⟩, sc_same sc hp SameB.upd⟩ f1 f2⟩
    · -- row[1] = row[1] + 1
      refine ⟨_, rfl, p, _, _, _, rfl, rfl, SqL.of hp, atI_nat (j := 1) rfl, _, _, rfl, rfl, _, rfl, p, _, _, 1, rfl, rfl, hp, rfl, ?_⟩
      generalize hH1 : L2.upd H p _ = H1
      have s1 : SameB p H H1 := by rw [← hH1]; exact SameB.upd
      have hp1 : H1 p = some (.lst [.ref a, .int (i + 1), .int x, .int c]) := by rw [← hH1, upd_same]; rfl
      have sc1 := sc_same sc hp s1
      refine ⟨_, rfl, p, _, _, _, rfl, rfl, SqL.of hp1, atI_nat (j := 1) rfl, _, rfl, p, _, _, _, rfl, rfl, SqL.of hp1, atI_nat (j := 0) rfl, a, _, rfl, .inl sc1, _, _, rfl, rfl, _, rfl, ite2 (fun e2 => ?_) (fun e2 => ?_)⟩
      · refine ⟨_, rfl, p, _, _, _, rfl, rfl, SqL.of hp1, atI_nat (j := 2) rfl, _, _, rfl, rfl, .inl ⟨by omega, by omega⟩, _, _, rfl, rfl, .inl ⟨_, rfl, _, _, rfl, rfl, (by show (2147483647 : Int) ≠ 0; decide), _, rfl, p, _, _, 2, rfl, rfl, hp1, rfl, ?_⟩⟩
        generalize hH2 : L2.upd H1 p _ = H2
        obtain ⟨g1, g2⟩ := fmod_bd (x * 48271 + 11) (m := 2147483647) (by omega)
        have s2 : SameB p H H2 := by rw [← hH2]; exact s1.trans SameB.upd
        have hp2 : H2 p = some (.lst [.ref a, .int (i + 1), .int ((x * 48271 + 11).fmod 2147483647), .int c]) := by rw [← hH2, upd_same]; rfl
        refine ⟨_, rfl, p, _, _, _, rfl, rfl, SqL.of hp2, atI_nat (j := 2) rfl, _, _, rfl, rfl, ⟨by decide, by decide⟩, .inl ⟨_, rfl, _, rfl, _, _, rfl, rfl, by omega, ?_⟩⟩
        obtain ⟨f1, f2⟩ := fmod_bd (((x * 48271 + 11).fmod 2147483647).fdiv 7) h1
        exact q _ _ s2 ⟨⟨_, _, _, hp2, by omega, g1, g2⟩, sc_same sc hp s2⟩ f1 f2
      · have e2 : ¬ i + 1 > ((ns.map V.int).length : Int) := fun z => e2 (decide_eq_true z)
        rw [List.length_map] at e2
        obtain ⟨j, hj⟩ : ∃ j : Nat, i = (j : Int) := ⟨i.toNat, by omega⟩
        subst hj
        have hjn : j < ns.length := by omega
        refine ⟨_, rfl, p, _, _, _, rfl, rfl, SqL.of hp1, atI_nat (j := 0) rfl, _, rfl, p, _, _, _, rfl, rfl, SqL.of hp1, atI_nat (j := 1) rfl, _, _, rfl, rfl, a, _, _, _, rfl, rfl, sc1, at_of (j := j) (by omega) (at_vint (at_getD hjn)), ?_⟩
        generalize hcell : LvM.at_ ns j = cell
        refine ⟨_, rfl, p, _, _, _, rfl, rfl, SqL.of hp1, atI_nat (j := 2) rfl, _, _, rfl, rfl, .inl ⟨by omega, by omega⟩, _, rfl, _, _, rfl, rfl, _, _, rfl, rfl, .inl ⟨_, rfl, _, _, rfl, rfl, (by show (2147483647 : Int) ≠ 0; decide), _, rfl, p, _, _, 2, rfl, rfl, hp1, rfl, ?_⟩⟩
        generalize hH2 : L2.upd H1 p _ = H2
        obtain ⟨g1, g2⟩ := fmod_bd (x * 48271 + cell + 11) (m := 2147483647) (by omega)
        have s2 : SameB p H H2 := by rw [← hH2]; exact s1.trans SameB.upd
        have hp2 : H2 p = some (.lst [.ref a, .int ((j : Int) + 1), .int ((x * 48271 + cell + 11).fmod 2147483647), .int c]) := by rw [← hH2, upd_same]; rfl
        obtain ⟨f1, f2⟩ := fmod_bd cell h1
        refine ⟨_, rfl, _, _, rfl, rfl, ⟨by decide, by decide, by decide⟩, _, _, rfl, rfl, _, rfl, ite2 (fun e3 => ?_) (fun e3 => ?_)⟩
        · refine ⟨_, rfl, _, rfl, _, _, rfl, rfl, ⟨by omega, by omega⟩, _, rfl, p, _, _, 3, rfl, rfl, hp2, rfl, ?_⟩
          exact ⟨_, rfl, .inl ⟨_, rfl, _, rfl, _, _, rfl, rfl, by omega, q _ _ (s2.trans SameB.upd) ⟨⟨_, _, _, upd_same, by omega, g1, g2⟩, sc_same sc hp (s2.trans SameB.upd)⟩ f1 f2⟩⟩
        · exact ⟨_, rfl, .inl ⟨_, rfl, _, rfl, _, _, rfl, rfl, by omega, q _ _ s2 ⟨⟨_, _, _, hp2, by omega, g1, g2⟩, sc_same sc hp s2⟩ f1 f2⟩⟩
/-! ### _law_many -/
theorem scMany : FnScope ["_law_roof", "_law_many_here", "_law_found", "_law_k"] ["_law_roof", "_law_many_here"] (defScope sMany) := ⟨rfl, rfl, rfl, by decide +kernel, rfl, by decide +kernel, by decide +kernel⟩
def spMany : Sp := fun vs H Q _ => ∃ (r n : Nat), vs = [.int r, .int n] ∧ r ≤ 9 ∧ n ≤ 9 ∧ Q (.int (((r + 1) ^ n : Nat) : Int)) H
theorem ok_many {f : Addr} {fd : FuncData} (G : Got K mg "_law_many" sMany ["_law_roof", "_law_many_here"] f fd) (T : Txt mg) : Dfn P w K mg base 1 "_law_many" ["_law_roof", "_law_many_here"] spMany := by
  refine G.dfn (G.F.ok scMany (fun vs H Q E h => ?_) (fun cdv A outer s H vs Q E hr h => ?_))
  · obtain ⟨r, n, rfl, _⟩ := h
    rfl
  · obtain ⟨r, n, rfl, hr9, hn, q⟩ := h
    refine ⟨_, pss_cons (ps_set (i := 2) scMany.nd rfl (.inl rfl) pe_int)
      (pss_cons (ps_for PassesOwn.never rfl (pi_range1 (by rfl) T.range (pa_cons (pv 1) pa_nil)) (pg_name (i := 3) scMany.nd rfl (.inl rfl))
        (pss_one (ps_set (i := 2) scMany.nd rfl (.inl rfl) (pe_op op_mul (pv 2) (pe_op op_add (pv 0) pe_int)))))
      (pss_one (ps_ret (pv 2)))), ?_⟩
    refine ⟨_, rfl, (n : Int), rfl, by omega, by omega, ?_⟩
    rw [show ((n : Int)).toNat = n by omega]
    refine for_it (walk_range (lo := 0) (n := n)) (fun i σ H' => ∃ (y3 : Option V), σ = [some (.int r), some (.int n), some (.int (((r + 1) ^ i : Nat) : Int)), y3] ∧ H' = H)
      ⟨none, rfl, rfl⟩ (fun _ _ _ _ _ => trivial) ?_ ?_
    · rintro i x σ H1 H2 hi ⟨y3, rfl, rfl⟩ ⟨rfl, rfl⟩
      have b1 : (r + 1) ^ i ≤ 10 ^ 9 := Nat.le_trans (Nat.pow_le_pow_left (by omega) i) (Nat.pow_le_pow_right (by omega) (by omega))
      refine ⟨_, rfl, _, rfl, _, _, rfl, rfl, _, _, rfl, rfl, .inl ⟨by omega, by omega⟩, ?_⟩
      refine ⟨some (.int (0 + (i : Nat))), ?_, rfl⟩
      have e : ((((r + 1) ^ i : Nat) : Int)) * ((r : Int) + 1) = (((r + 1) ^ (i + 1) : Nat) : Int) := by
        rw [Nat.pow_succ, Int.natCast_mul]
        rfl
      show ([some (.int r), some (.int n), some (.int ((((r + 1) ^ i : Nat) : Int) * ((r : Int) + 1))), some (.int (0 + (i : Nat)))] : L2.St) = _
      rw [e]
    · rintro σ H1 ⟨y3, rfl, rfl⟩
      exact ⟨_, rfl, q⟩
end
end Lv

namespace Lv
open PySem PySem.Spec PyProof.Rows L2 LamX NdefX LvL LvG LvM
theorem perm_map {α β : Type} (f : α → β) {l1 l2 : List β} (h : l1.Perm l2) : ∀ zs : List α, l2 = zs.map f → ∃ zs' : List α, l1 = zs'.map f ∧ zs'.Perm zs := by
  induction h with
  | nil =>
    intro zs e
    cases zs with
    | nil => exact ⟨[], rfl, List.Perm.refl _⟩
    | cons z r => cases e
  | cons x _ ih =>
    intro zs e
    cases zs with
    | nil => cases e
    | cons z r =>
      rw [List.map_cons] at e
      injection e with e1 e2
      obtain ⟨zs', h1, h2⟩ := ih r e2
      exact ⟨z :: zs', by rw [List.map_cons, ← e1, ← h1], h2.cons z⟩
  | swap x y l =>
    intro zs e
    match zs, e with
    | [], e => cases e
    | [_], e => cases e
    | a :: b :: r, e =>
      rw [List.map_cons, List.map_cons] at e
      injection e with e1 e2
      injection e2 with e2 e3
      exact ⟨b :: a :: r, by rw [List.map_cons, List.map_cons, ← e1, ← e2, ← e3], List.Perm.swap _ _ _⟩
  | trans _ _ ih1 ih2 =>
    intro zs e
    obtain ⟨zs2, h1, h2⟩ := ih2 zs e
    obtain ⟨zs1, h3, h4⟩ := ih1 zs2 h1
    exact ⟨zs1, h3, h4.trans h2⟩
theorem PrAt.zipped {H : Hp} {rs : List Addr} {ps : List (Int × Int)} (h : PrAt H rs ps) : ∃ zs : List (Addr × (Int × Int)), rs = zs.map (·.1) ∧ ps = zs.map (·.2) ∧ ∀ z ∈ zs, H z.1 = some (prV z.2) := by
  refine ⟨rs.zip ps, (List.map_fst_zip (by rw [h.len]; exact Nat.le_refl _)).symm, (List.map_snd_zip (by rw [h.len]; exact Nat.le_refl _)).symm, fun z hz => ?_⟩
  obtain ⟨i, hi, e⟩ := List.mem_iff_getElem.mp hz
  rw [List.getElem_zip] at e
  rw [List.length_zip] at hi
  rw [← e]
  exact h.at_ i _ _ (List.getElem?_eq_getElem (by omega)) (List.getElem?_eq_getElem (by omega))
theorem PrAt.of_zip {H : Hp} {zs : List (Addr × (Int × Int))} (h : ∀ z ∈ zs, H z.1 = some (prV z.2)) : PrAt H (zs.map (·.1)) (zs.map (·.2)) := by
  refine ⟨by rw [List.length_map, List.length_map], fun j r p a b => ?_⟩
  rw [List.getElem?_map] at a b
  cases e : zs[j]? with
  | none => rw [e] at a; cases a
  | some z =>
    rw [e] at a b
    cases a
    cases b
    exact h z (List.mem_of_getElem? e)
theorem PrAt.perm {H : Hp} {rs : List Addr} {ps : List (Int × Int)} {ys : List V} (h : PrAt H rs ps) (hp : ys.Perm (rs.map V.ref)) : ∃ rs' ps', ys = rs'.map V.ref ∧ PrAt H rs' ps' ∧ ps'.Perm ps := by
  obtain ⟨zs, e1, e2, hz⟩ := h.zipped
  obtain ⟨zs', h1, h2⟩ := perm_map (fun z : Addr × (Int × Int) => V.ref z.1) hp zs (by rw [e1, List.map_map]; rfl)
  refine ⟨zs'.map (·.1), zs'.map (·.2), by rw [h1, List.map_map]; rfl, PrAt.of_zip fun z hz' => hz z (h2.mem_iff.mp hz'), ?_⟩
  rw [e2]
  exact h2.map _
/-- a web: its number of places, its edges in some order -/
structure WebAt (H : Hp) (wb : Addr) (n : Nat) (E : Ed) : Prop where
  ex : ∃ (q : Addr) (rs : List Addr), H wb = some (.tup [.int n, .ref q]) ∧ H q = some (.tup (rs.map V.ref)) ∧ PrAt H rs (castE E)
theorem WebAt.same {H H' : Hp} {wb : Addr} {n : Nat} {E : Ed} (W : WebAt H wb n E) (s : Same H H') : WebAt H' wb n E := by
  obtain ⟨q, rs, h1, h2, h3⟩ := W.ex
  exact ⟨q, rs, s _ _ h1, s _ _ h2, h3.same s⟩
/-- tuples stay where all but a list stays -/
theorem SameB.tup {p a : Addr} {H H' : Hp} {l xs : List V} (s : SameB p H H') (hp : H p = some (.lst l)) (h : H a = some (.tup xs)) : H' a = some (.tup xs) := s _ _ (fun z => by rw [z, hp] at h; cases h) h
theorem WebAt.sameB {H H' : Hp} {p wb : Addr} {n : Nat} {E : Ed} {l : List V} (W : WebAt H wb n E) (s : SameB p H H') (hp : H p = some (.lst l)) : WebAt H' wb n E := by
  obtain ⟨q, rs, h1, h2, h3⟩ := W.ex
  exact ⟨q, rs, s.tup hp h1, s.tup hp h2, h3.len, fun j r pr a b => s.tup hp (h3.at_ j r pr a b)⟩
theorem dp_ints {K : PySem.W.Frag} {H : Hp} : ∀ ns : List Int, DpAll K H (ns.map V.int) (ns.map PyData.int)
  | [] => .nil
  | n :: r => .cons (.int n) (dp_ints r)
theorem ints_lay : ∀ ns : List Int, PyData.canLayAll0 (ns.map PyData.int) = true
  | [] => by simp [PyData.canLayAll0]
  | n :: r => by simp [PyData.canLayAll0, PyData.canLay0, ints_lay r]
theorem ints_depth : ∀ ns : List Int, PyData.depthAll (ns.map PyData.int) ≤ 1
  | [] => by simp [PyData.depthAll]
  | n :: r => by
    have h := ints_depth r
    simp only [List.map_cons, PyData.depthAll, PyData.depth]
    omega
theorem ints_shaped (ns : List Int) : SeqAt.shaped (.list (ns.map PyData.int)) = true := by
  have h1 := ints_depth ns
  have h2 : PyData.depth (.list (ns.map PyData.int)) ≤ 64 := by
    simp only [PyData.depth]
    omega
  show (PyData.canLay0 (.list (ns.map PyData.int)) && decide (PyData.depth (.list (ns.map PyData.int)) ≤ 64)) = true
  rw [Bool.and_eq_true]
  exact ⟨by simp only [PyData.canLay0]; exact ints_lay ns, decide_eq_true h2⟩
theorem ints_eqv_nil : ∀ ns : List Int, PyData.eqv (.list (ns.map PyData.int)) (.list []) = decide (ns = [])
  | [] => by simp [PyData.eqv, PyData.eqvAll]
  | n :: r => by simp [PyData.eqv, PyData.eqvAll]
theorem any_pr (E : Ed) (x y : Nat) : ((castE E).map prD2).any (fun z => PyData.eqv z (prD2 ((x : Int), (y : Int)))) = decide ((x, y) ∈ E) := by
  rw [Bool.eq_iff_iff, List.any_eq_true]
  constructor
  · rintro ⟨z, hz, e⟩
    obtain ⟨p, hp, rfl⟩ := List.mem_map.mp hz
    obtain ⟨ed, hed, rfl⟩ := List.mem_map.mp hp
    rw [prD2_eqv] at e
    have e := of_decide_eq_true e
    injection e with e1 e2
    have h1 : ed.1 = x := by omega
    have h2 : ed.2 = y := by omega
    rw [← h1, ← h2]
    exact decide_eq_true hed
  · intro h
    have h := of_decide_eq_true h
    refine ⟨prD2 ((x : Int), (y : Int)), List.mem_map.mpr ⟨((x : Int), (y : Int)), List.mem_map.mpr ⟨(x, y), h, rfl⟩, rfl⟩, ?_⟩
    rw [prD2_eqv]
    exact decide_eq_true rfl
section
variable {P : Program} {w : World} {K : PySem.W.Frag} {mg : Str → Option Value} {base : Heap}
/-! ### _law_row -/
theorem scRow : FnScope ["_law_many_here", "_law_is_ring", "_law_edges", "_law_k"] ["_law_many_here", "_law_is_ring"] (defScope sRow) := ⟨rfl, rfl, rfl, by decide +kernel, rfl, by decide +kernel, by decide +kernel⟩
def spRow : Sp := fun vs H Q _ => ∃ (n : Nat) (ring : Bool), vs = [.int n, .bl ring] ∧ 1 ≤ n ∧ n ≤ 40 ∧ ∀ (H' : Hp) (p : Addr) (E : Ed), Same H H' → WebAt H' p n E → E.Perm (edgesL n ring) → Q (.ref p) H'
theorem ok_row {f : Addr} {fd : FuncData} (G : Got K mg "_law_row" sRow ["_law_many_here", "_law_is_ring"] f fd) (T : Txt mg) : Dfn P w K mg base 1 "_law_row" ["_law_many_here", "_law_is_ring"] spRow := by
  refine G.dfn (G.F.ok scRow (fun vs H Q E h => ?_) (fun cdv A outer s H vs Q E hr h => ?_))
  · obtain ⟨n, ring, rfl, _⟩ := h
    rfl
  · obtain ⟨n, ring, rfl, h1, h40, q⟩ := h
    refine ⟨_, pss_cons (ps_set (i := 2) scRow.nd rfl (.inl rfl) (pe_op op_cat (pe_lc (own := [("_law_k", 3)]) (g := gName 3) (tt := tYes) rfl scRow.nd (pi_range1 (by rfl) T.range (pa_cons (pe_op op_sub (pv 0) pe_int) pa_nil))
      (blkOk_by (N := ["_law_many_here", "_law_is_ring", "_law_edges", "_law_k"]) (sc := defScope sRow) (by decide +kernel))
      (fun _ _ _ _ _ => pg_name (i := 3) scRow.nd rfl (.inl rfl))
      (fun _ _ _ _ _ => pts_nil)
      (fun _ _ _ _ _ => pe_tup (pa_cons (pv 3) (pa_cons (pe_op op_add (pv 3) pe_int) pa_nil))))
      (pe_ifExp (pt_val (pv 1)) (pe_lst (pa_cons (pe_tup (pa_cons pe_int (pa_cons (pe_op op_sub (pv 0) pe_int) pa_nil))) pa_nil)) (pe_lst pa_nil))))
      (pss_one (ps_ret (pe_tup (pa_cons (pv 0) (pa_cons (pe_callTy call_tuple_of (by rfl) T.tuple (by decide +kernel) (pa_cons (pe_callB cr_sortedP (by rfl) T.sorted (by decide +kernel) (pa_cons (pv 2) pa_nil)) pa_nil)) pa_nil))))), ?_⟩
    refine ⟨_, rfl, _, _, rfl, rfl, (n : Int) - 1, rfl, by omega, by omega, fun D hD => ?_⟩
    rw [show ((n : Int) - 1).toNat = n - 1 by omega]
    -- what stands behind the edges
    have fin : ∀ (H1 : Hp) (p : Addr) (rs : List Addr), Same H H1 → H1 p = some (.lst (rs.map V.ref)) → PrAt H1 rs (castE (edgesL n ring)) → rs.length ≤ 1000 →
        ∃ v, [some (.int n), some (.bl ring), some (.ref p), (none : Option V)][0]? = some (some v) ∧ ∃ v2, [some (.int n), some (.bl ring), some (.ref p), (none : Option V)][2]? = some (some v2) ∧ ∃ (a : Addr) (xs : List V), [v2] = [V.ref a] ∧ SqL K H1 a xs ∧ (∀ x ∈ xs, ∃ t i j, x = V.ref t ∧ H1 t = some (.tup [.int i, .int j])) ∧
          ∀ ys p2, ys.Perm xs → H1 p2 = none → ∃ (p3 : Addr) (ys2 : List V), [V.ref p2] = [V.ref p3] ∧ ((SqL K (upd H1 p2 (.lst ys)) p3 ys2 ∧ ∀ l, upd H1 p2 (.lst ys) l = none → ([v, V.ref l].length ≤ sizeLine ∧ ∀ t, upd (upd H1 p2 (.lst ys)) l (.tup ys2) t = none → Q (.ref t) (upd (upd (upd H1 p2 (.lst ys)) l (.tup ys2)) t (.tup [v, V.ref l])))) ∨ (SqT K (upd H1 p2 (.lst ys)) p3 ys2 ∧ ([v, V.ref p3].length ≤ sizeLine ∧ ∀ t, upd H1 p2 (.lst ys) t = none → Q (.ref t) (upd (upd H1 p2 (.lst ys)) t (.tup [v, V.ref p3])))))  := by
      intro H1 p rs s1 hp hrs hl
      refine ⟨_, rfl, _, rfl, p, _, rfl, SqL.of hp, fun x hx => ?_, fun ys p2 hperm np2 => ?_⟩
      · obtain ⟨r, hr, rfl⟩ := List.mem_map.mp hx
        obtain ⟨j, hj, e⟩ := List.mem_iff_getElem.mp hr
        have hjl := hrs.len
        have q := hrs.at_ j r ((castE (edgesL n ring))[j]'(by omega)) (by rw [List.getElem?_eq_getElem hj, e]) (List.getElem?_eq_getElem (by omega))
        exact ⟨r, _, _, rfl, q⟩
      · obtain ⟨rs', ps', rfl, hrs', hpp⟩ := hrs.perm hperm
        obtain ⟨E, rfl, hE⟩ := perm_map (fun e : Nat × Nat => ((e.1 : Int), (e.2 : Int))) hpp (edgesL n ring) rfl
        refine ⟨p2, _, rfl, .inl ⟨SqL.of upd_same, fun l nl => ⟨by show 2 ≤ sizeLine; decide, fun t nt => ?_⟩⟩⟩
        have s2 := same_upd (o := .lst (rs'.map V.ref)) np2
        have s3 := same_upd (o := .tup (rs'.map V.ref)) nl
        have s4 := same_upd (o := .tup [.int n, .ref l]) nt
        refine q _ t E (s1.trans (s2.trans (s3.trans s4))) ⟨l, rs', upd_same, s4 _ _ upd_same, hrs'.same (s2.trans (s3.trans s4))⟩ hE
    refine lc_it (walk_range (lo := 0) (n := n - 1)) (fun i H' => Same H H' ∧ ∃ rs : List Addr, H' D = some (.lst (rs.map V.ref)) ∧ PrAt H' rs (castE ((List.range i).map fun k => (k, k + 1))))
      ⟨same_upd hD, [], upd_same, .nil⟩ (fun _ _ _ _ => trivial) ?_ ?_
    · rintro i x H1 H2 hi ⟨s1, rs, eD, hrs⟩ ⟨rfl, rfl⟩
      refine ⟨rfl, tyes (iteT ?_)⟩
      refine ⟨_, rfl, _, rfl, _, _, rfl, rfl, by show 2 ≤ sizeLine; decide, fun t nt => ?_⟩
      have nDt : D ≠ t := ne_of_none eD nt
      have s2 := s1.trans (same_upd (o := .tup [.int (0 + (i : Nat)), .int (0 + (i : Nat) + 1)]) nt)
      have hrl := hrs.len
      simp at hrl
      refine ⟨_, (by rw [upd_ne nDt]; exact eD), ?_, ?_, rs ++ [t], ?_, ?_⟩
      · rw [List.length_map, hrl]
        exact small1000 (by omega)
      · exact fun c o e => by
          rw [upd_ne (ne_of_none e hD)]
          exact s2 _ _ e
      · rw [upd_same, List.map_append]
        rfl
      · have a1 : PrAt (upd H2 t (.tup [.int (0 + (i : Nat)), .int (0 + (i : Nat) + 1)])) (rs ++ [t]) (castE ((List.range i).map fun k => (k, k + 1)) ++ [((i : Int), (i : Int) + 1)]) := by
          refine PrAt.snoc (hrs.same (same_upd nt)) ?_
          rw [upd_same]
          unfold prV
          simp
        have e9 : castE ((List.range (i + 1)).map fun k => (k, k + 1)) = castE ((List.range i).map fun k => (k, k + 1)) ++ [((i : Int), (i : Int) + 1)] := by
          rw [List.range_succ]
          simp [castE]
        rw [e9]
        exact a1.upd fun p z => by
          rw [upd_ne nDt, eD] at z
          exact prV_ne _ _ z
    · rintro H1 ⟨s1, rs, eD, hrs⟩
      have hrl := hrs.len
      simp at hrl
      refine ⟨_, rfl, ring, rfl, ?_⟩
      cases ring with
      | true =>
        refine iteT ?_
        refine ⟨_, rfl, _, _, rfl, rfl, by show 2 ≤ sizeLine; decide, fun t nt => ?_⟩
        refine ⟨by show 1 ≤ sizeLine; decide, fun l nl => ?_⟩
        have nDt : D ≠ t := ne_of_none eD nt
        have s2 : Same H1 (upd H1 t (.tup [.int 0, .int ((n : Int) - 1)])) := same_upd nt
        have s3 := s2.trans (same_upd (o := .lst [.ref t]) nl)
        have eD3 := s3 _ _ eD
        refine ⟨D, l, _, _, rfl, rfl, eD3, upd_same, ?_, fun p np => ?_⟩
        · rw [List.length_map, hrl]
          show n - 1 + 1 ≤ sizeLine
          exact Nat.le_of_lt (small1000 (by omega))
        · have s4 := s3.trans (same_upd (o := .lst (rs.map V.ref ++ [.ref t])) np)
          refine fin _ p (rs ++ [t]) (s1.trans s4) (by rw [upd_same, List.map_append]; rfl) ?_ (by simp; omega)
          have e9 : castE (edgesL n true) = castE ((List.range (n - 1)).map fun k => (k, k + 1)) ++ [((0 : Int), (n : Int) - 1)] := by
            unfold edgesL
            simp [castE]
            omega
          rw [e9]
          refine PrAt.snoc (hrs.same s4) ?_
          refine (same_upd (o := .lst (rs.map V.ref ++ [.ref t])) np) _ _ ((same_upd (o := .lst [.ref t]) nl) _ _ ?_)
          rw [upd_same]
          rfl
      | false =>
        refine iteF ?_
        refine ⟨Nat.zero_le _, fun l nl => ?_⟩
        have s3 : Same H1 (upd H1 l (.lst [])) := same_upd nl
        have eD3 := s3 _ _ eD
        refine ⟨D, l, _, _, rfl, rfl, eD3, upd_same, ?_, fun p np => ?_⟩
        · rw [List.length_map, hrl]
          exact Nat.le_of_lt (small1000 (by show n - 1 + 0 ≤ 1000; omega))
        · have s4 := s3.trans (same_upd (o := .lst (rs.map V.ref ++ [])) np)
          refine fin _ p rs (s1.trans s4) (by rw [upd_same, List.append_nil]) ?_ (by omega)
          have e9 : castE (edgesL n false) = castE ((List.range (n - 1)).map fun k => (k, k + 1)) := by
            unfold edgesL
            simp [castE]
          rw [e9]
          exact hrs.same s4
/-! ### _law_step -/
theorem scStep : FnScope ["_law_heights_here", "_law_deed", "_law_found"] ["_law_heights_here", "_law_deed"] (defScope sStep) := ⟨rfl, rfl, rfl, by decide +kernel, rfl, by decide +kernel, by decide +kernel⟩
def stepH (hs : List Int) (d : Bool × Nat) : List Int := hs.set d.2 (LvM.at_ hs d.2 + (if d.1 = true then 1 else 0 - 1))
def spStep : Sp := fun vs H Q _ => ∃ (a b : Addr) (hs : List Int) (d : Bool × Nat), vs = [.ref a, .ref b] ∧ HtAt H a hs ∧ H b = some (.tup [.bl d.1, .int d.2]) ∧ d.2 < hs.length ∧ ∀ H' q, Same H H' → H q = none → HtAt H' q (stepH hs d) → Q (.ref q) H'
theorem ixN_nat {n k : Nat} (h : k < n) : ixN n (k : Int) = some k := by
  unfold ixN
  rw [if_pos (by omega)]
  simp [h]
theorem ok_step {f : Addr} {fd : FuncData} (G : Got K mg "_law_step" sStep ["_law_heights_here", "_law_deed"] f fd) (T : Txt mg) : Dfn P w K mg base 1 "_law_step" ["_law_heights_here", "_law_deed"] spStep := by
  refine G.dfn (G.F.ok scStep (fun vs H Q E h => ?_) (fun cdv A outer s H vs Q E hr h => ?_))
  · obtain ⟨a, b, hs, d, rfl, _⟩ := h
    rfl
  · obtain ⟨a, b, hs, ⟨up, k⟩, rfl, ha, hb, hk, q⟩ := h
    have hk : k < hs.length := hk
    refine ⟨_, pss_cons (ps_set (i := 2) scStep.nd rfl (.inl rfl) (pe_callTy call_list_of (by rfl) T.list (by decide +kernel) (pa_cons (pv 0) pa_nil)))
      (pss_cons (ps_asg (pe_op op_add (pe_ix (r := rIxL K) ix_list (pv 2) (pe_ix (r := rIxT K) ix_tup (pv 1) pe_int (fun _ _ => rfl)) (fun _ _ => rfl)) (pe_ifExp (pt_val (pe_ix (r := rIxT K) ix_tup (pv 1) pe_int (fun _ _ => rfl))) pe_int (pe_op op_sub pe_int pe_int)))
        (pg_sub (pv 2) (pe_ix (r := rIxT K) ix_tup (pv 1) pe_int (fun _ _ => rfl)) set_list))
      (pss_one (ps_ret (pe_callTy call_tuple_of (by rfl) T.tuple (by decide +kernel) (pa_cons (pv 2) pa_nil))))), ?_⟩
    refine ⟨_, rfl, a, _, rfl, .inr (SqT.of ha), fun l nl => ?_⟩
    have s1 : Same H (upd H l (.lst (hs.map V.int))) := same_upd nl
    have hb1 := s1 _ _ hb
    refine ⟨_, rfl, _, rfl, b, _, _, _, rfl, rfl, SqT.of hb1, atI_nat (j := 1) rfl, l, _, _, _, rfl, rfl, SqL.of upd_same, atI_nat (at_vint (at_getD hk)), _, rfl, b, _, _, _, rfl, rfl, SqT.of hb1, atI_nat (j := 0) rfl, up, rfl, ?_⟩
    have rest : ∀ z : Int, z = (if up = true then 1 else 0 - 1) → (∃ (p : Addr) (xs : List V) (k1 : Int) (j : Nat), V.ref l = .ref p ∧ V.int (k : Nat) = .int k1 ∧ upd H l (.lst (hs.map V.int)) p = some (.lst xs) ∧ ixN xs.length k1 = some j ∧
        (∃ v, [some (.ref a), some (.ref b), some (V.ref l)][2]? = some (some v) ∧ ∃ (p2 : Addr) (ys : List V), [v] = [V.ref p2] ∧ ((SqL K (upd (upd H l (.lst (hs.map V.int))) p (.lst (xs.set j (.int (LvM.at_ hs k + z))))) p2 ys ∧ ∀ t, upd (upd H l (.lst (hs.map V.int))) p (.lst (xs.set j (.int (LvM.at_ hs k + z)))) t = none → Q (.ref t) (upd (upd (upd H l (.lst (hs.map V.int))) p (.lst (xs.set j (.int (LvM.at_ hs k + z))))) t (.tup ys))) ∨
          (SqT K (upd (upd H l (.lst (hs.map V.int))) p (.lst (xs.set j (.int (LvM.at_ hs k + z))))) p2 ys ∧ Q (.ref p2) (upd (upd H l (.lst (hs.map V.int))) p (.lst (xs.set j (.int (LvM.at_ hs k + z)))))))) ) := by
      intro z hz
      refine ⟨l, _, _, k, rfl, rfl, upd_same, ixN_nat (by rw [List.length_map]; exact hk), _, rfl, l, _, rfl, .inl ⟨SqL.of upd_same, fun t nt => ?_⟩⟩
      rw [upd_upd] at nt ⊢
      have s2 : Same H (upd H l (.lst ((hs.map V.int).set k (.int (LvM.at_ hs k + z))))) := same_upd nl
      refine q _ t (s2.trans (same_upd nt)) (s2.free nt) ?_
      show upd _ t _ t = _
      rw [upd_same]
      unfold stepH
      rw [List.map_set, ← hz]
    cases up with
    | true =>
      refine iteT ⟨_, _, rfl, rfl, _, rfl, _, rfl, b, _, _, _, rfl, rfl, SqT.of hb1, atI_nat (j := 1) rfl, ?_⟩
      exact rest 1 rfl
    | false =>
      refine iteF ⟨_, _, rfl, rfl, _, _, rfl, rfl, _, rfl, _, rfl, b, _, _, _, rfl, rfl, SqT.of hb1, atI_nat (j := 1) rfl, ?_⟩
      exact rest (0 - 1) rfl
/-! ### _law_beside -/
theorem scBeside : FnScope ["_law_web", "_law_place", "_law_k"] ["_law_web", "_law_place"] (defScope sBeside) := ⟨rfl, rfl, rfl, by decide +kernel, rfl, by decide +kernel, by decide +kernel⟩
def adjB (E : Ed) (k j : Nat) : Bool := decide ((j, k) ∈ E) || decide ((k, j) ∈ E)
def besL (E : Ed) (n k : Nat) : List Nat := (List.range n).filter (adjB E k)
abbrev natV (l : List Nat) : List V := l.map fun j => V.int ((j : Nat) : Int)
theorem natV_snoc (l : List Nat) (i : Nat) : natV (l ++ [i]) = natV l ++ [V.int (i : Nat)] := List.map_append
def spBeside : Sp := fun vs H Q _ => ∃ (wb : Addr) (n k : Nat) (E : Ed), vs = [.ref wb, .int k] ∧ WebAt H wb n E ∧ n ≤ 40 ∧ ∀ H' p, Same H H' → H' p = some (.lst (natV (besL E n k))) → Q (.ref p) H'
theorem ok_beside {f : Addr} {fd : FuncData} (G : Got K mg "_law_beside" sBeside ["_law_web", "_law_place"] f fd) (T : Txt mg) : Dfn P w K mg base 1 "_law_beside" ["_law_web", "_law_place"] spBeside := by
  refine G.dfn (G.F.ok scBeside (fun vs H Q E h => ?_) (fun cdv A outer s H vs Q E hr h => ?_))
  · obtain ⟨wb, n, k, E, rfl, _⟩ := h
    rfl
  · obtain ⟨wb, n, k, E, rfl, W, h40, q⟩ := h
    obtain ⟨qe, rs, hw, hq, hrs⟩ := W.ex
    have hu65 : (A.deeper (envOfC "_law_beside" (defScope sBeside) s.heap.objs.size f cdv)).units + 65 < cLine := by
      have := hr.un
      omega
    refine ⟨_, pss_one (ps_ret (pe_lc (own := [("_law_k", 2)]) (g := gName 2) rfl scBeside.nd (pi_range1 (by rfl) T.range (pa_cons (pe_ix (r := rIxT K) ix_tup (pv 0) pe_int (fun _ _ => rfl)) pa_nil))
      (blkOk_by (N := ["_law_web", "_law_place", "_law_k"]) (sc := defScope sBeside) (by decide +kernel))
      (fun _ _ _ _ _ => pg_name (i := 2) scBeside.nd rfl (.inl rfl))
      (fun _ _ _ _ _ => pts_one (PW.pt (pw_or (pt_cmpR (r := rInT K) (op_inT hu65) (pe_tup (pa_cons (pv 2) (pa_cons (pv 1) pa_nil))) (pe_ix (r := rIxT K) ix_tup (pv 0) pe_int (fun _ _ => rfl)) (by rfl))
        (pw_or1 (pt_cmpR (r := rInT K) (op_inT hu65) (pe_tup (pa_cons (pv 1) (pa_cons (pv 2) pa_nil))) (pe_ix (r := rIxT K) ix_tup (pv 0) pe_int (fun _ _ => rfl)) (by rfl))))))
      (fun _ _ _ _ _ => pv 2))), ?_⟩
    refine ⟨_, rfl, wb, _, _, _, rfl, rfl, SqT.of hw, atI_nat (j := 0) rfl, (n : Int), rfl, by omega, by omega, fun D hD => ?_⟩
    rw [show ((n : Int)).toNat = n by omega]
    refine lc_it (walk_range (lo := 0) (n := n)) (fun i H' => Same H H' ∧ H' D = some (.lst (natV ((List.range i).filter (adjB E k)))))
      ⟨same_upd hD, upd_same⟩ (fun _ _ _ _ => trivial) ?_ ?_
    · rintro i x H1 H2 hi ⟨s1, eD⟩ ⟨rfl, rfl⟩
      refine ⟨rfl, ?_⟩
      refine ⟨_, rfl, _, rfl, by show 2 ≤ sizeLine; decide, fun t nt => ?_⟩
      have s2 := s1.trans (same_upd (o := .tup [.int (0 + (i : Nat)), .int (k : Nat)]) nt)
      have e0 : (0 : Int) + (i : Nat) = (i : Nat) := by omega
      refine ⟨_, rfl, wb, _, _, _, rfl, rfl, SqT.of (s2 _ _ hw), atI_nat (j := 1) rfl, prD2 ((i : Int), (k : Int)), (castE E).map prD2, ?_, .tup (SqT.of (s2 _ _ hq)) (dp_prs (hrs.same s2)), prD2_shaped _, prD2t_shaped _, _, rfl, ?_⟩
      · refine dp_pr (p := ((i : Int), (k : Int))) ?_
        rw [upd_same]
        show some (HO.tup [V.int (0 + (i : Nat)), V.int k]) = _
        rw [e0]
        rfl
      · rw [any_pr]
        have ecase : adjB E k i = (decide ((i, k) ∈ E) || decide ((k, i) ∈ E)) := rfl
        have step : ∀ H3 : Hp, Same H H3 → H3 D = some (.lst (natV ((List.range i).filter (adjB E k)))) → adjB E k i = true →
            (∃ v, (List.set (wipe (L2.start ["_law_web", "_law_place", "_law_k"] [V.ref wb, V.int k]) ([(("_law_k" : Str), 2)].map fun x => x.2)) 2 (some (V.int (0 + (i : Nat)))))[2]? = some (some v) ∧ ∃ acc, H3 D = some (.lst acc) ∧ acc.length < sizeLine ∧ Same H (upd H3 D (.lst (acc ++ [v]))) ∧ upd H3 D (.lst (acc ++ [v])) D = some (.lst (natV ((List.range (i + 1)).filter (adjB E k))))) := by
          intro H3 s3 e3 ha
          refine ⟨_, rfl, _, e3, ?_, ?_, ?_⟩
          · rw [List.length_map]
            have := List.length_filter_le (adjB E k) (List.range i)
            rw [List.length_range] at this
            exact small1000 (by omega)
          · exact fun c o e => by
              rw [upd_ne (ne_of_none e hD)]
              exact s3 _ _ e
          · rw [upd_same, List.range_succ, List.filter_append, List.filter_cons_of_pos ha, List.filter_nil, natV_snoc, e0]
        have skip : ∀ H3 : Hp, Same H H3 → H3 D = some (.lst (natV ((List.range i).filter (adjB E k)))) → adjB E k i = false → Same H H3 ∧ H3 D = some (.lst (natV ((List.range (i + 1)).filter (adjB E k)))) := by
          intro H3 s3 e3 ha
          refine ⟨s3, ?_⟩
          rw [List.range_succ, List.filter_append, List.filter_cons_of_neg (by rw [ha]; exact Bool.false_ne_true), List.filter_nil, List.append_nil]
          exact e3
        have eD2 := (same_upd (o := .tup [.int (0 + (i : Nat)), .int (k : Nat)]) nt) _ _ eD
        refine ite2 (fun c1 => ?_) (fun c1 => ?_)
        · refine iteT ?_
          exact step _ s2 eD2 (by rw [ecase, c1, Bool.true_or])
        · rw [Bool.not_eq_true] at c1
          refine ⟨_, rfl, _, rfl, by show 2 ≤ sizeLine; decide, fun t2 nt2 => ?_⟩
          have s3 := s2.trans (same_upd (o := .tup [.int (k : Nat), .int (0 + (i : Nat))]) nt2)
          refine ⟨_, rfl, wb, _, _, _, rfl, rfl, SqT.of (s3 _ _ hw), atI_nat (j := 1) rfl, prD2 ((k : Int), (i : Int)), (castE E).map prD2, ?_, .tup (SqT.of (s3 _ _ hq)) (dp_prs (hrs.same s3)), prD2_shaped _, prD2t_shaped _, _, rfl, ?_⟩
          · refine dp_pr (p := ((k : Int), (i : Int))) ?_
            rw [upd_same]
            show some (HO.tup [V.int k, V.int (0 + (i : Nat))]) = _
            rw [e0]
            rfl
          · rw [any_pr]
            have eD3 := (same_upd (o := .tup [.int (k : Nat), .int (0 + (i : Nat))]) nt2) _ _ eD2
            refine ite2 (fun c2 => ?_) (fun c2 => ?_)
            · exact step _ s3 eD3 (by rw [ecase, c2, Bool.or_true])
            · rw [Bool.not_eq_true] at c2
              exact skip _ s3 eD3 (by rw [ecase, c1, c2]; rfl)
    · rintro H1 ⟨s1, eD⟩
      exact q _ D s1 eD
end
end Lv

namespace Lv
open PySem PySem.Spec PyProof.Rows L2 LamX NdefX LvL LvG LvM
theorem walk_range0 {n : Nat} : Walk (Itr 0 n) n (fun _ => True) (YFn fun i => .int ((i : Nat) : Int)) :=
  walk_range.mono (fun _ h => h) fun i H x H' _ _ y => ⟨y.1, by rw [y.2]; show V.int (0 + (i : Nat)) = V.int (i : Nat); rw [Int.zero_add]⟩
/-! ### lists of things that are told by tuples -/
def SameT (H H' : Hp) : Prop := ∀ b xs, H b = some (.tup xs) → H' b = some (.tup xs)
theorem SameT.of {H H' : Hp} (s : Same H H') : SameT H H' := fun _ _ e => s _ _ e
theorem SameT.upd {H : Hp} {D : Addr} {o : HO} {xs : List V} (h : H D = some (.lst xs)) : SameT H (L2.upd H D o) := fun b ys e => by
  rw [upd_ne (fun z => by rw [z, h] at e; cases e)]
  exact e
theorem SameT.ofB {p : Addr} {H H' : Hp} {l : List V} (s : SameB p H H') (h : H p = some (.lst l)) : SameT H H' := fun _ _ e => s.tup h e
structure LsAt {α : Type} (F : Hp → Addr → α → Prop) (H : Hp) (rs : List Addr) (xs : List α) : Prop where
  len : rs.length = xs.length
  at_ : ∀ (j : Nat) (r : Addr) (x : α), rs[j]? = some r → xs[j]? = some x → F H r x
def TupSt {α : Type} (F : Hp → Addr → α → Prop) : Prop := ∀ H H' r x, SameT H H' → F H r x → F H' r x
section
variable {α : Type} {F : Hp → Addr → α → Prop} {H H' : Hp} {rs rs' : List Addr} {xs xs' : List α} {r : Addr} {x : α}
theorem LsAt.nil : LsAt F H [] [] := ⟨rfl, fun j r p h => by simp at h⟩
theorem LsAt.mono (h : LsAt F H rs xs) (st : TupSt F) (s : SameT H H') : LsAt F H' rs xs := ⟨h.len, fun j r p a b => st _ _ _ _ s (h.at_ j r p a b)⟩
theorem LsAt.append (h : LsAt F H rs xs) (h' : LsAt F H rs' xs') : LsAt F H (rs ++ rs') (xs ++ xs') := by
  refine ⟨by simp [h.len, h'.len], fun j r2 p2 a b => ?_⟩
  have hl := h.len
  by_cases hj : j < rs.length
  · rw [List.getElem?_append_left hj] at a
    rw [List.getElem?_append_left (by omega)] at b
    exact h.at_ j r2 p2 a b
  · rw [List.getElem?_append_right (by omega)] at a
    rw [List.getElem?_append_right (by omega)] at b
    rw [← hl] at b
    exact h'.at_ _ r2 p2 a b
theorem LsAt.one (h : F H r x) : LsAt F H [r] [x] := ⟨rfl, fun j r2 p2 a b => by
  match j, a, b with
  | 0, a, b => cases a; cases b; exact h
  | j + 1, a, _ => simp at a⟩
theorem LsAt.snoc (h : LsAt F H rs xs) (hr : F H r x) : LsAt F H (rs ++ [r]) (xs ++ [x]) := h.append (LsAt.one hr)
/-- the item at a place -/
theorem LsAt.get (h : LsAt F H rs xs) {i : Nat} {v : V} (hv : (rs.map V.ref)[i]? = some v) : ∃ r x, v = .ref r ∧ xs[i]? = some x ∧ F H r x := by
  rw [List.getElem?_map] at hv
  cases e : rs[i]? with
  | none => rw [e] at hv; cases hv
  | some r =>
    rw [e] at hv
    have hi := (List.getElem?_eq_some_iff.mp e).1
    have hl := h.len
    have hx : xs[i]? = some (xs[i]'(by omega)) := List.getElem?_eq_getElem (by omega)
    exact ⟨r, _, (Option.some.inj hv).symm, hx, h.at_ i r _ e hx⟩
end
/-- a deed's tuple -/
def dF (H : Hp) (r : Addr) (d : Bool × Nat) : Prop := H r = some (.tup [.bl d.1, .int d.2])
theorem dF_st : TupSt dF := fun _ _ _ _ s h => s _ _ h
/-- a pair of a deed and heights -/
def aF (H : Hp) (r : Addr) (h : List Int) : Prop := ∃ d q, H r = some (.tup [.ref d, .ref q]) ∧ HtAt H q h
theorem aF_st : TupSt aF := fun _ _ _ _ s h => by
  obtain ⟨d, q, h1, h2⟩ := h
  exact ⟨d, q, s _ _ h1, s _ _ h2⟩
/-! ### the deeds -/
def raiseB (E : Ed) (n : Nat) (roof : Int) (hs : List Int) (k : Nat) : Bool := decide (LvM.at_ hs k < roof) && (besL E n k).all fun j => decide (LvM.at_ hs k ≤ LvM.at_ hs j)
def lowerB (E : Ed) (n : Nat) (hs : List Int) (k : Nat) : Bool := decide (0 < LvM.at_ hs k) && (besL E n k).all fun j => decide (LvM.at_ hs j ≤ LvM.at_ hs k)
def upL (E : Ed) (n : Nat) (roof : Int) (hs : List Int) (m : Nat) : List (Bool × Nat) := ((List.range m).filter (raiseB E n roof hs)).map fun k => (true, k)
def downL (E : Ed) (n : Nat) (hs : List Int) (m : Nat) : List (Bool × Nat) := ((List.range m).filter (lowerB E n hs)).map fun k => (false, k)
def deedsL (E : Ed) (n : Nat) (roof : Int) (hs : List Int) : List (Bool × Nat) := upL E n roof hs n ++ downL E n hs n
def afterL (E : Ed) (n : Nat) (roof : Int) (hs : List Int) : List (List Int) := (deedsL E n roof hs).map (stepH hs)
theorem upL_succ (E : Ed) (n : Nat) (roof : Int) (hs : List Int) (m : Nat) : upL E n roof hs (m + 1) = if raiseB E n roof hs m = true then upL E n roof hs m ++ [(true, m)] else upL E n roof hs m := by
  unfold upL
  rw [List.range_succ, List.filter_append]
  cases e : raiseB E n roof hs m with
  | true => rw [List.filter_cons_of_pos e, List.filter_nil, List.map_append, if_pos rfl]; rfl
  | false => rw [List.filter_cons_of_neg (by rw [e]; exact Bool.false_ne_true), List.filter_nil, List.append_nil, if_neg Bool.false_ne_true]
theorem downL_succ (E : Ed) (n : Nat) (hs : List Int) (m : Nat) : downL E n hs (m + 1) = if lowerB E n hs m = true then downL E n hs m ++ [(false, m)] else downL E n hs m := by
  unfold downL
  rw [List.range_succ, List.filter_append]
  cases e : lowerB E n hs m with
  | true => rw [List.filter_cons_of_pos e, List.filter_nil, List.map_append, if_pos rfl]; rfl
  | false => rw [List.filter_cons_of_neg (by rw [e]; exact Bool.false_ne_true), List.filter_nil, List.append_nil, if_neg Bool.false_ne_true]
theorem upL_len (E : Ed) (n : Nat) (roof : Int) (hs : List Int) (m : Nat) : (upL E n roof hs m).length ≤ m := by
  unfold upL
  rw [List.length_map]
  have := List.length_filter_le (raiseB E n roof hs) (List.range m)
  rw [List.length_range] at this
  exact this
theorem downL_len (E : Ed) (n : Nat) (hs : List Int) (m : Nat) : (downL E n hs m).length ≤ m := by
  unfold downL
  rw [List.length_map]
  have := List.length_filter_le (lowerB E n hs) (List.range m)
  rw [List.length_range] at this
  exact this
theorem mem_besL {E : Ed} {n k j : Nat} (hE : EdIn E n) : j ∈ besL E n k ↔ adj E j k := by
  unfold besL
  rw [List.mem_filter, List.mem_range]
  unfold adjB
  rw [Bool.or_eq_true, decide_eq_true_eq, decide_eq_true_eq]
  constructor
  · exact fun h => h.2
  · exact fun h => ⟨(adj_lt hE h).1, h⟩
theorem raiseB_iff {E : Ed} {n : Nat} {roof : Int} {hs : List Int} {k : Nat} (hE : EdIn E n) (hn : hs.length = n) (hk : k < n) : raiseB E n roof hs k = true ↔ Raise E roof hs k := by
  unfold raiseB Raise
  rw [Bool.and_eq_true, decide_eq_true_eq, List.all_eq_true]
  constructor
  · exact fun h => ⟨by omega, h.1, fun q hq => of_decide_eq_true (h.2 q ((mem_besL hE).mpr hq))⟩
  · exact fun h => ⟨h.2.1, fun q hq => decide_eq_true (h.2.2 q ((mem_besL hE).mp hq))⟩
theorem lowerB_iff {E : Ed} {n : Nat} {hs : List Int} {k : Nat} (hE : EdIn E n) (hn : hs.length = n) (hk : k < n) : lowerB E n hs k = true ↔ Lower E hs k := by
  unfold lowerB Lower
  rw [Bool.and_eq_true, decide_eq_true_eq, List.all_eq_true]
  constructor
  · exact fun h => ⟨by omega, h.1, fun q hq => of_decide_eq_true (h.2 q ((mem_besL hE).mpr hq))⟩
  · exact fun h => ⟨h.2.1, fun q hq => decide_eq_true (h.2.2 q ((mem_besL hE).mp hq))⟩
theorem deeds_lt {E : Ed} {n : Nat} {roof : Int} {hs : List Int} {d : Bool × Nat} (h : d ∈ deedsL E n roof hs) : d.2 < n := by
  unfold deedsL upL downL at h
  rcases List.mem_append.mp h with h | h
  · obtain ⟨k, hk, rfl⟩ := List.mem_map.mp h
    exact List.mem_range.mp (List.mem_filter.mp hk).1
  · obtain ⟨k, hk, rfl⟩ := List.mem_map.mp h
    exact List.mem_range.mp (List.mem_filter.mp hk).1
/-- THE DEEDS: what the law's text tries is what can be done -/
theorem mem_after {E : Ed} {n : Nat} {roof : Int} {hs y : List Int} (hE : EdIn E n) (hn : hs.length = n) : y ∈ afterL E n roof hs ↔ Deed E roof hs y := by
  unfold afterL deedsL upL downL
  rw [List.mem_map]
  constructor
  · rintro ⟨d, hd, rfl⟩
    rcases List.mem_append.mp hd with h | h
    · obtain ⟨k, hk, rfl⟩ := List.mem_map.mp h
      obtain ⟨h1, h2⟩ := List.mem_filter.mp hk
      exact .up k ((raiseB_iff hE hn (List.mem_range.mp h1)).mp h2)
    · obtain ⟨k, hk, rfl⟩ := List.mem_map.mp h
      obtain ⟨h1, h2⟩ := List.mem_filter.mp hk
      have q := Deed.down (roof := roof) k ((lowerB_iff hE hn (List.mem_range.mp h1)).mp h2)
      exact q
  · intro d
    cases d with
    | up p r =>
      have hp : p < n := by have := r.1; omega
      exact ⟨(true, p), List.mem_append_left _ (List.mem_map.mpr ⟨p, List.mem_filter.mpr ⟨List.mem_range.mpr hp, (raiseB_iff hE hn hp).mpr r⟩, rfl⟩), rfl⟩
    | down p r =>
      have hp : p < n := by have := r.1; omega
      exact ⟨(false, p), List.mem_append_right _ (List.mem_map.mpr ⟨p, List.mem_filter.mpr ⟨List.mem_range.mpr hp, (lowerB_iff hE hn hp).mpr r⟩, rfl⟩), rfl⟩
section
variable {P : Program} {w : World} {K : PySem.W.Frag} {mg : Str → Option Value} {base : Heap}
/-- a list, and one deed more if a test says so -/
theorem rd_addIf {σ : L2.St} {H : Hp} {Q : VK} {i j : Nat} {l : Addr} {rs : List Addr} {ds : List (Bool × Nat)} {b : Bool} {k : Nat} {c : TT} {cond : Bool} (hσ : σ[i]? = some (some (.ref l))) (hj : σ[j]? = some (some (.int (k : Nat)))) (hl : H l = some (.lst (rs.map V.ref))) (hd : LsAt dF H rs ds) (hlen : ds.length ≤ 500)
    (hc : ∀ Q' : Bool → Hp → Prop, Q' cond H → c σ H Q')
    (q : ∀ H5 p rs5, Same H H5 → H5 p = some (.lst (rs5.map V.ref)) → LsAt dF H5 rs5 (if cond = true then ds ++ [(b, k)] else ds) → Q (.ref p) H5) :
    tOp rCat (tVar i) (tIf c (tLst (tCons (tTup (tCons (tC (.bl b)) (tCons (tVar j) tNil))) tNil)) (tLst tNil)) σ H Q := by
  refine ⟨_, hσ, hc _ ?_⟩
  have hrl := hd.len
  cases cond with
  | true =>
    refine iteT ?_
    refine ⟨_, hj, by show 2 ≤ sizeLine; decide, fun t nt => ⟨by show 1 ≤ sizeLine; decide, fun m nm => ?_⟩⟩
    have s1 : Same H (upd H t (.tup [.bl b, .int (k : Nat)])) := same_upd nt
    have s2 := s1.trans (same_upd (o := .lst [.ref t]) nm)
    refine ⟨l, m, _, _, rfl, rfl, s2 _ _ hl, upd_same, ?_, fun p np => ?_⟩
    · rw [List.length_map]
      exact Nat.le_of_lt (small1000 (by show rs.length + 1 ≤ 1000; omega))
    · have s3 := s2.trans (same_upd (o := .lst (rs.map V.ref ++ [.ref t])) np)
      refine q _ p (rs ++ [t]) s3 (by rw [upd_same, List.map_append]; rfl) ?_
      rw [if_pos rfl]
      refine (hd.mono dF_st (SameT.of s3)).snoc ?_
      exact (same_upd (o := .lst (rs.map V.ref ++ [.ref t])) np) _ _ ((same_upd (o := .lst [.ref t]) nm) _ _ upd_same)
  | false =>
    refine iteF ?_
    refine ⟨Nat.zero_le _, fun m nm => ?_⟩
    have s2 : Same H (upd H m (.lst [])) := same_upd nm
    refine ⟨l, m, _, _, rfl, rfl, s2 _ _ hl, upd_same, ?_, fun p np => ?_⟩
    · rw [List.length_map]
      exact Nat.le_of_lt (small1000 (by show rs.length + 0 ≤ 1000; omega))
    · have s3 := s2.trans (same_upd (o := .lst (rs.map V.ref ++ [])) np)
      refine q _ p rs s3 (by rw [upd_same, List.append_nil]) ?_
      rw [if_neg Bool.false_ne_true]
      exact hd.mono dF_st (SameT.of s3)
/-! ### _law_deeds -/
theorem scDeeds : FnScope ["_law_web", "_law_roof", "_law_heights_here", "_law_up", "_law_down", "_law_k", "_law_some", "_law_j"] ["_law_web", "_law_roof", "_law_heights_here"] (defScope sDeeds) := ⟨rfl, rfl, rfl, by decide +kernel, rfl, by decide +kernel, by decide +kernel⟩
def spDeeds : Sp := fun vs H Q _ => ∃ (wb a : Addr) (n : Nat) (roof : Int) (E : Ed) (hs : List Int), vs = [.ref wb, .int roof, .ref a] ∧ WebAt H wb n E ∧ EdIn E n ∧ n ≤ 40 ∧ HtAt H a hs ∧ hs.length = n ∧
  ∀ H' p rs, Same H H' → H' p = some (.lst (rs.map V.ref)) → LsAt dF H' rs (deedsL E n roof hs) → Q (.ref p) H'
theorem besL_lt {E : Ed} {n k j : Nat} (h : j ∈ besL E n k) : j < n := List.mem_range.mp (List.mem_filter.mp h).1
theorem besL_len (E : Ed) (n k : Nat) : (besL E n k).length ≤ n := by
  have := List.length_filter_le (adjB E k) (List.range n)
  rw [List.length_range] at this
  exact this
theorem ok_deeds {f : Addr} {fd : FuncData} (G : Got K mg "_law_deeds" sDeeds ["_law_web", "_law_roof", "_law_heights_here"] f fd) (T : Txt mg) (D1 : Dfn P w K mg base 1 "_law_beside" ["_law_web", "_law_place"] spBeside) : Dfn P w K mg base 2 "_law_deeds" ["_law_web", "_law_roof", "_law_heights_here"] spDeeds := by
  refine G.dfn (G.F.ok scDeeds (fun vs H Q E h => ?_) (fun cdv A outer s H vs Q E hr h => ?_))
  · obtain ⟨wb, a, n, roof, E, hs, rfl, _⟩ := h
    rfl
  · obtain ⟨wb, a, n, roof, E, hs, rfl, W, hE, h40, ha, hn, q⟩ := h
    refine ⟨_, pss_cons (ps_par (i := 3) (j := 4) rfl scDeeds.nd rfl rfl (by decide) rfl rfl (pa_cons (pe_lst pa_nil) (pa_cons (pe_lst pa_nil) pa_nil)) (by rfl))
      (pss_cons (ps_for PassesOwn.never rfl (pi_range1 (by rfl) T.range (pa_cons (pe_ix (r := rIxT K) ix_tup (pv 0) pe_int (fun _ _ => rfl)) pa_nil)) (pg_name (i := 5) scDeeds.nd rfl (.inl rfl))
        (pss_cons (ps_set (i := 6) scDeeds.nd rfl (.inl rfl) (pe_op op_cat (pe_lc (own := [("_law_j", 7)]) (g := gName 7) (tt := tYes) rfl scDeeds.nd (pi_list (pe_cd D1 hr (by decide) (by rfl) (pa_cons (pv 0) (pa_cons (pv 5) pa_nil))))
            (blkOk_by (N := ["_law_web", "_law_roof", "_law_heights_here", "_law_up", "_law_down", "_law_k", "_law_some", "_law_j"]) (sc := defScope sDeeds) (by decide +kernel))
            (fun _ _ _ _ _ => pg_name (i := 7) scDeeds.nd rfl (.inl rfl))
            (fun _ _ _ _ _ => pts_nil)
            (fun _ _ _ _ _ => pe_ix (r := rIxT K) ix_tup (pv 2) (pv 7) (fun _ _ => rfl)))
          (pe_lst (pa_cons (pe_ix (r := rIxT K) ix_tup (pv 2) (pv 5) (fun _ _ => rfl)) pa_nil))))
        (pss_cons (ps_set (i := 3) scDeeds.nd rfl (.inl rfl) (pe_op op_cat (pv 3) (pe_ifExp (PW.pt (pw_and (pt_cmpR op_lt (pe_ix (r := rIxT K) ix_tup (pv 2) (pv 5) (fun _ _ => rfl)) (pv 1) (nomark _))
            (pw_and1 (pt_cmpR op_eq (pe_callB (cr_min rfl) (by rfl) T.min (by decide +kernel) (pa_cons (pv 6) pa_nil)) (pe_ix (r := rIxT K) ix_tup (pv 2) (pv 5) (fun _ _ => rfl)) (nomark _)))))
          (pe_lst (pa_cons (pe_tup (pa_cons pe_bl (pa_cons (pv 5) pa_nil))) pa_nil)) (pe_lst pa_nil))))
        (pss_one (ps_set (i := 4) scDeeds.nd rfl (.inl rfl) (pe_op op_cat (pv 4) (pe_ifExp (PW.pt (pw_and (pt_cmpR op_gt (pe_ix (r := rIxT K) ix_tup (pv 2) (pv 5) (fun _ _ => rfl)) pe_int (nomark _))
            (pw_and1 (pt_cmpR op_eq (pe_callB (cr_max rfl) (by rfl) T.max (by decide +kernel) (pa_cons (pv 6) pa_nil)) (pe_ix (r := rIxT K) ix_tup (pv 2) (pv 5) (fun _ _ => rfl)) (nomark _)))))
          (pe_lst (pa_cons (pe_tup (pa_cons pe_bl (pa_cons (pv 5) pa_nil))) pa_nil)) (pe_lst pa_nil))))))))
      (pss_one (ps_ret (pe_op op_cat (pv 3) (pv 4))))), ?_⟩
    obtain ⟨qe, res, hw, hq, hres⟩ := W.ex
    refine ⟨Nat.zero_le _, fun l1 nl1 => ⟨Nat.zero_le _, fun l2 nl2 => ⟨_, _, rfl, ?_⟩⟩⟩
    have s1 : Same H (upd H l1 (.lst [])) := same_upd nl1
    have s2 := s1.trans (same_upd (o := .lst []) nl2)
    refine ⟨_, rfl, wb, _, _, _, rfl, rfl, SqT.of (s2 _ _ hw), atI_nat (j := 0) rfl, (n : Int), rfl, by omega, by omega, ?_⟩
    rw [show ((n : Int)).toNat = n by omega]
    refine for_it (walk_range0 (n := n)) (fun i σ H' => ∃ (lu ld : Addr) (ru rd : List Addr) (y5 y6 y7 : Option V), σ = [some (.ref wb), some (.int roof), some (.ref a), some (.ref lu), some (.ref ld), y5, y6, y7] ∧ Same H H' ∧ H' lu = some (.lst (ru.map V.ref)) ∧ LsAt dF H' ru (upL E n roof hs i) ∧ H' ld = some (.lst (rd.map V.ref)) ∧ LsAt dF H' rd (downL E n hs i))
      ⟨l1, l2, [], [], none, none, none, rfl, s2, (same_upd (o := .lst []) nl2) _ _ upd_same, LsAt.nil, upd_same, LsAt.nil⟩ (fun _ _ _ _ _ => trivial) ?_ ?_
    · rintro i x σ H1 H2 hi ⟨lu, ld, ru, rd, y5, y6, y7, rfl, s3, hlu, hru, hld, hrd⟩ ⟨rfl, rfl⟩
      have hai : (hs.map V.int)[i]? = some (V.int (LvM.at_ hs i)) := at_vint (at_getD (by omega))
      -- some = ..
      refine ⟨_, rfl, _, rfl, wb, n, i, E, rfl, W.same s3, h40, fun H3 pb s4 hpb => ⟨pb, rfl, ⟨_, SqL.of hpb⟩, fun D hD => ?_⟩⟩
      have s5 := s3.trans s4
      refine lc_it (walk_list (K := K) (a := pb) (xs := natV (besL E n i))) (fun j H' => Same H3 H' ∧ H' D = some (.lst ((((besL E n i).take j).map (LvM.at_ hs)).map V.int)))
        ⟨same_upd hD, upd_same⟩ (fun j H' _ ⟨s6, _⟩ => SqL.of (s6 _ _ hpb)) ?_ ?_
      · rintro j x H4 H5 hj ⟨s6, eD⟩ ⟨rfl, hx⟩
        rw [List.length_map] at hj
        have hbj : (besL E n i)[j]? = some (besL E n i)[j] := List.getElem?_eq_getElem hj
        have hbm := besL_lt (List.getElem_mem hj)
        generalize (besL E n i)[j] = m at hbj hbm
        rw [List.getElem?_map, hbj] at hx
        cases hx
        refine ⟨rfl, tyes (iteT ?_)⟩
        refine ⟨_, rfl, _, rfl, a, _, _, _, rfl, rfl, SqT.of (s6 _ _ (s5 _ _ ha)), atI_nat (at_vint (at_getD (i := m) (by omega))), _, eD, ?_, ?_, ?_⟩
        · rw [List.length_map, List.length_map, List.length_take]
          have := besL_len E n i
          exact small1000 (by omega)
        · exact fun c o e => by
            rw [upd_ne (ne_of_none e hD)]
            exact s6 _ _ e
        · rw [upd_same, List.take_add_one, hbj, List.map_append, List.map_append]
          rfl
      · rintro H4 ⟨s6, eD⟩
        rw [List.length_map, List.take_length] at eD
        have s7 := s5.trans s6
        refine ⟨_, rfl, _, rfl, a, _, _, _, rfl, rfl, SqT.of (s7 _ _ ha), atI_nat hai, by show 1 ≤ sizeLine; decide, fun m nm => ?_⟩
        have s8 := s7.trans (same_upd (o := .lst [V.int (LvM.at_ hs i)]) nm)
        refine ⟨D, m, _, _, rfl, rfl, (same_upd (o := .lst [V.int (LvM.at_ hs i)]) nm) _ _ eD, upd_same, ?_, fun ps nps => ?_⟩
        · rw [List.length_map, List.length_map]
          have := besL_len E n i
          exact Nat.le_of_lt (small1000 (by show (besL E n i).length + 1 ≤ 1000; omega))
        · generalize hH5 : upd (upd H4 m (.lst [V.int (LvM.at_ hs i)])) ps _ = H5
          have s9' : Same H4 H5 := by rw [← hH5]; exact (same_upd nm).trans (same_upd nps)
          have s9 : Same H2 H5 := s4.trans (s6.trans s9')
          have sT : Same H H5 := s3.trans s9
          have hps : H5 ps = some (.lst ((((besL E n i).map (LvM.at_ hs)) ++ [LvM.at_ hs i]).map V.int)) := by
            rw [← hH5, upd_same, List.map_append]
            rfl
          have hpos : 0 < (((besL E n i).map (LvM.at_ hs)) ++ [LvM.at_ hs i]).length := by simp
          -- up
          refine rd_addIf (k := i) (cond := raiseB E n roof hs i) (ds := upL E n roof hs i) (rs := ru) (l := lu) rfl rfl (s9 _ _ hlu) (hru.mono dF_st (SameT.of s9)) (Nat.le_trans (upL_len _ _ _ _ _) (by omega)) (fun Q' q' => ?_) (fun H6 pu ru' s10 hpu hru' => ?_)
          · refine ⟨_, rfl, _, rfl, a, _, _, _, rfl, rfl, SqT.of (sT _ _ ha), atI_nat hai, _, rfl, _, _, rfl, rfl, _, rfl, ?_⟩
            refine ite2 (fun c1 => ?_) (fun c1 => ?_)
            · refine ⟨_, rfl, ps, _, rfl, SqL.of hps, hpos, fun m hm hmin => ?_⟩
              refine ⟨_, rfl, _, rfl, a, _, _, _, rfl, rfl, SqT.of (sT _ _ ha), atI_nat hai, rfl, _, rfl, ?_⟩
              have e1 : decide (V.int m = V.int (LvM.at_ hs i)) = raiseB E n roof hs i := by
                unfold raiseB
                rw [show decide (LvM.at_ hs i < roof) = true from c1, Bool.true_and]
                rw [Bool.eq_iff_iff, decide_eq_true_eq, List.all_eq_true]
                constructor
                · intro z j hj
                  have z := V.int.inj z
                  have := hmin (LvM.at_ hs j) (List.mem_append_left _ (List.mem_map.mpr ⟨j, hj, rfl⟩))
                  exact decide_eq_true (by omega)
                · intro z
                  have h1 := hmin (LvM.at_ hs i) (List.mem_append_right _ (List.mem_singleton.mpr rfl))
                  have h2 : LvM.at_ hs i ≤ m := by
                    rcases List.mem_append.mp hm with h | h
                    · obtain ⟨j, hj, rfl⟩ := List.mem_map.mp h
                      exact of_decide_eq_true (z j hj)
                    · rw [List.mem_singleton.mp h]
                      exact Int.le_refl _
                  rw [show m = LvM.at_ hs i by omega]
              rw [e1]
              exact q'
            · have e1 : raiseB E n roof hs i = false := by
                unfold raiseB
                rw [Bool.not_eq_true] at c1
                rw [show decide (LvM.at_ hs i < roof) = false from c1, Bool.false_and]
              rw [e1] at q'
              exact q'
          · rw [← upL_succ] at hru'
            have s11 := s9.trans s10
            -- down
            refine rd_addIf (k := i) (cond := lowerB E n hs i) (ds := downL E n hs i) (rs := rd) (l := ld) rfl rfl (s11 _ _ hld) (hrd.mono dF_st (SameT.of s11)) (Nat.le_trans (downL_len _ _ _ _) (by omega)) (fun Q' q' => ?_) (fun H7 pd rd' s12 hpd hrd' => ?_)
            · have sU : Same H H6 := sT.trans s10
              refine ⟨_, rfl, _, rfl, a, _, _, _, rfl, rfl, SqT.of (sU _ _ ha), atI_nat hai, _, _, rfl, rfl, _, rfl, ?_⟩
              refine ite2 (fun c1 => ?_) (fun c1 => ?_)
              · refine ⟨_, rfl, ps, _, rfl, SqL.of (s10 _ _ hps), hpos, fun m hm hmax => ?_⟩
                refine ⟨_, rfl, _, rfl, a, _, _, _, rfl, rfl, SqT.of (sU _ _ ha), atI_nat hai, rfl, _, rfl, ?_⟩
                have e1 : decide (V.int m = V.int (LvM.at_ hs i)) = lowerB E n hs i := by
                  unfold lowerB
                  rw [show decide (0 < LvM.at_ hs i) = true from c1, Bool.true_and]
                  rw [Bool.eq_iff_iff, decide_eq_true_eq, List.all_eq_true]
                  constructor
                  · intro z j hj
                    have z := V.int.inj z
                    have := hmax (LvM.at_ hs j) (List.mem_append_left _ (List.mem_map.mpr ⟨j, hj, rfl⟩))
                    exact decide_eq_true (by omega)
                  · intro z
                    have h1 := hmax (LvM.at_ hs i) (List.mem_append_right _ (List.mem_singleton.mpr rfl))
                    have h2 : m ≤ LvM.at_ hs i := by
                      rcases List.mem_append.mp hm with h | h
                      · obtain ⟨j, hj, rfl⟩ := List.mem_map.mp h
                        exact of_decide_eq_true (z j hj)
                      · rw [List.mem_singleton.mp h]
                        exact Int.le_refl _
                    rw [show m = LvM.at_ hs i by omega]
                rw [e1]
                exact q'
              · have e1 : lowerB E n hs i = false := by
                  unfold lowerB
                  rw [Bool.not_eq_true] at c1
                  rw [show decide (0 < LvM.at_ hs i) = false from c1, Bool.false_and]
                rw [e1] at q'
                exact q'
            · rw [← downL_succ] at hrd'
              exact ⟨pu, pd, ru', rd', _, _, _, rfl, s3.trans (s11.trans s12), s12 _ _ hpu, hru'.mono dF_st (SameT.of s12), hpd, hrd'⟩
    · rintro σ H1 ⟨lu, ld, ru, rd, y5, y6, y7, rfl, s3, hlu, hru, hld, hrd⟩
      have h1 := hru.len
      have h2 := hrd.len
      have h3 := upL_len E n roof hs n
      have h4 := downL_len E n hs n
      refine ⟨_, rfl, _, rfl, lu, ld, _, _, rfl, rfl, hlu, hld, ?_, fun p np => ?_⟩
      · rw [List.length_map, List.length_map]
        exact Nat.le_of_lt (small1000 (by omega))
      · have s4 : Same H1 (upd H1 p (.lst (ru.map V.ref ++ rd.map V.ref))) := same_upd np
        exact q _ p (ru ++ rd) (s3.trans s4) (by rw [upd_same, List.map_append]) ((hru.append hrd).mono dF_st (SameT.of s4))
end
end Lv

namespace Lv
open PySem PySem.Spec PyProof.Rows L2 LamX NdefX LvL LvG LvM
section
variable {P : Program} {w : World} {K : PySem.W.Frag} {mg : Str → Option Value} {base : Heap}
/-! ### _law_heights -/
theorem scHeights : FnScope ["_law_row_here", "_law_many_here", "_law_roof", "_law_way", "_law_found", "_law_k", "_law_near"] ["_law_row_here", "_law_many_here", "_law_roof"] (defScope sHeights) := ⟨rfl, rfl, rfl, by decide +kernel, rfl, by decide +kernel, by decide +kernel⟩
def spHeights (K : PySem.W.Frag) : Sp := fun vs H Q _ => ∃ (p a : Addr) (ns : List Int) (n roof : Nat), vs = [.ref p, .int n, .int roof] ∧ RowH K a ns p H ∧ n ≤ 40 ∧ 1 ≤ roof ∧ roof ≤ 9 ∧
  ∀ H' q hs, SameB p H H' → RowH K a ns p H' → HtAt H' q hs → Hts n roof hs → Q (.ref q) H'
theorem mem_snoc_bd {acc : List Int} {r v : Int} (h : ∀ x ∈ acc, 0 ≤ x ∧ x ≤ r) (hv : 0 ≤ v ∧ v ≤ r) : ∀ x ∈ acc ++ [v], 0 ≤ x ∧ x ≤ r := fun x hx => by
  rcases List.mem_append.mp hx with h1 | h1
  · exact h x h1
  · rw [List.mem_singleton.mp h1]
    exact hv
theorem ok_heights {f : Addr} {fd : FuncData} (G : Got K mg "_law_heights" sHeights ["_law_row_here", "_law_many_here", "_law_roof"] f fd) (T : Txt mg) (D1 : Dfn P w K mg base 1 "_law_taken" ["_law_row_here", "_law_many_here"] (spTaken K)) : Dfn P w K mg base 2 "_law_heights" ["_law_row_here", "_law_many_here", "_law_roof"] (spHeights K) := by
  refine G.dfn (G.F.ok scHeights (fun vs H Q E h => ?_) (fun cdv A outer s H vs Q E hr h => ?_))
  · obtain ⟨p, a, ns, n, roof, rfl, _⟩ := h
    rfl
  · obtain ⟨p, a, ns, n, roof, rfl, R, h40, r1, r9, q⟩ := h
    have hu := hr.units
    refine ⟨_, pss_cons (ps_par (i := 3) (j := 4) rfl scHeights.nd rfl rfl (by decide) rfl rfl (pa_cons (pe_cd D1 hr (by decide) (by rfl) (pa_cons (pv 0) (pa_cons pe_int pa_nil))) (pa_cons (pe_lst pa_nil) pa_nil)) (by rfl))
      (pss_cons (ps_for PassesOwn.never rfl (pi_range1 (by rfl) T.range (pa_cons (pv 1) pa_nil)) (pg_name (i := 5) scHeights.nd rfl (.inl rfl))
        (pss_cons (ps_set (i := 6) scHeights.nd rfl (.inl rfl) (pe_ifExp (pt_cmpR (op_neD hu) (pv 4) (pe_lst pa_nil) (nomark _))
            (pe_op op_sub (pe_op op_add (pe_ix (r := rIxL K) ix_list (pv 4) (pe_un un_neg pe_int) (fun _ _ => rfl)) (pe_cd D1 hr (by decide) (by rfl) (pa_cons (pv 0) (pa_cons pe_int pa_nil)))) pe_int)
            (pe_cd D1 hr (by decide) (by rfl) (pa_cons (pv 0) (pa_cons (pe_op op_add (pv 2) pe_int) pa_nil)))))
        (pss_one (ps_expr (pe_bm PySem.F.plainAttrs_list PySem.F.slot_list_append PySem.F.type_list_append mt_append (pv 4) (pa_cons (pe_ifExp (pt_cmpR op_eq (pv 3) pe_int (nomark _))
            (pe_callB (call_max2 rfl) (by rfl) T.max (by decide +kernel) (pa_cons pe_int (pa_cons (pe_callB (call_min2 rfl) (by rfl) T.min (by decide +kernel) (pa_cons (pv 2) (pa_cons (pv 6) pa_nil))) pa_nil)))
            (pe_cd D1 hr (by decide) (by rfl) (pa_cons (pv 0) (pa_cons (pe_op op_add (pv 2) pe_int) pa_nil)))) pa_nil))))))
      (pss_one (ps_ret (pe_callTy call_tuple_of (by rfl) T.tuple (by decide +kernel) (pa_cons (pv 4) pa_nil))))), ?_⟩
    refine ⟨_, rfl, p, a, ns, 3, rfl, R, by omega, by omega, fun H1 way s1 R1 _ _ => ⟨Nat.zero_le _, fun D nD => ⟨_, _, rfl, ?_⟩⟩⟩
    have nDp : D ≠ p := fun z => by
      obtain ⟨l, hl⟩ := R1.lst
      rw [z, hl] at nD
      cases nD
    have s2 := s1.trans (SameB.of (same_upd (o := .lst []) nD))
    refine ⟨_, rfl, (n : Int), rfl, by omega, by omega, ?_⟩
    rw [show ((n : Int)).toNat = n by omega]
    refine for_it (walk_range0 (n := n)) (fun i σ H' => ∃ (acc : List Int) (y5 y6 : Option V), σ = [some (.ref p), some (.int n), some (.int roof), some (.int way), some (.ref D), y5, y6] ∧ SameB p H1 H' ∧ RowH K a ns p H' ∧ H' D = some (.lst (acc.map V.int)) ∧ acc.length = i ∧ (∀ x ∈ acc, 0 ≤ x ∧ x ≤ (roof : Int)))
      ⟨[], none, none, rfl, SameB.of (same_upd nD), R1.same (same_upd nD), upd_same, rfl, by simp⟩ (fun _ _ _ _ _ => trivial) ?_ ?_
    · rintro i x σ H2 H3 hi ⟨acc, y5, y6, rfl, s3, R3, eD, hl, hb⟩ ⟨rfl, rfl⟩
      -- the last statement: found.append(..)
      have app : ∀ (H4 : Hp) (v : Int), SameB p H1 H4 → RowH K a ns p H4 → H4 D = some (.lst (acc.map V.int)) → 0 ≤ v ∧ v ≤ (roof : Int) → (SameB p H1 (L2.upd H4 D (.lst (acc.map V.int ++ [V.int v]))) ∧ RowH K a ns p (L2.upd H4 D (.lst (acc.map V.int ++ [V.int v]))) ∧ L2.upd H4 D (.lst (acc.map V.int ++ [V.int v])) D = some (.lst ((acc ++ [v]).map V.int)) ∧ (acc ++ [v]).length = i + 1 ∧ ∀ x ∈ acc ++ [v], 0 ≤ x ∧ x ≤ (roof : Int)) := by
        intro H4 v s4 R4 e4 hv
        have s5 : SameB p H1 (L2.upd H4 D (.lst (acc.map V.int ++ [V.int v]))) := fun c o n e => by
          rw [upd_ne (ne_of_none e nD)]
          exact s4 _ _ n e
        refine ⟨s5, ⟨?_, ?_⟩, by rw [upd_same, List.map_append]; rfl, by simp [hl], mem_snoc_bd hb hv⟩
        · obtain ⟨i0, x0, c0, h0, r0⟩ := R4.at_
          exact ⟨i0, x0, c0, by rw [upd_ne nDp.symm]; exact h0, r0⟩
        · obtain ⟨l, hl0⟩ := R1.lst
          exact sc_same R1.sc hl0 s5
      -- found != []
      refine ⟨_, rfl, Nat.zero_le _, fun l nl => ?_⟩
      have s4 : Same H3 (L2.upd H3 l (.lst [])) := same_upd nl
      refine ⟨_, _, .lst (SqL.of (s4 _ _ eD)) (dp_ints acc), .lst (SqL.of upd_same) .nil, ints_shaped acc, by decide +kernel, _, rfl, ?_⟩
      rw [ints_eqv_nil]
      have s5 := s3.trans (SameB.of s4)
      have R5 := R3.same s4
      have eD5 := s4 _ _ eD
      refine ite2 (fun c1 => ?_) (fun c1 => ?_)
      · have hacc : acc ≠ [] := fun z => by rw [z] at c1; simp at c1
        have hpos : 0 < acc.length := List.length_pos_iff.mpr hacc
        refine ⟨_, rfl, 1, rfl, D, _, _, _, rfl, rfl, SqL.of eD5, atI_neg (n := acc.length - 1) (by rw [List.length_map]; omega) (at_vint (at_getD (by omega))), _, rfl, p, a, ns, 5, rfl, R5, by omega, by omega, fun H4 z s6 R6 _ _ => ?_⟩
        have eD6 := s6 _ _ nDp eD5
        have s7 := s5.trans s6
        refine ⟨_, _, rfl, rfl, _, _, rfl, rfl, ?_⟩
        refine ⟨_, rfl, .inl ⟨rfl, _, SqL.of eD6⟩, _, rfl, rfl, _, rfl, ite2 (fun c2 => ?_) (fun c2 => ?_)⟩
        · refine ⟨_, rfl, _, rfl, _, _, rfl, _, _, rfl, D, _, _, rfl, rfl, eD6, ?_, ?_⟩
          · rw [List.length_map]
            exact small1000 (by omega)
          · exact ⟨_, _, _, rfl, app H4 _ s7 R6 eD6 (by split <;> split <;> omega)⟩
        · refine ⟨_, rfl, _, rfl, _, _, rfl, rfl, p, a, ns, _, rfl, R6, by omega, by omega, fun H5 z2 s8 R8 z0 z1 => ?_⟩
          have eD8 := s8 _ _ nDp eD6
          refine ⟨D, _, _, rfl, rfl, eD8, ?_, ?_⟩
          · rw [List.length_map]
            exact small1000 (by omega)
          · exact ⟨_, _, _, rfl, app H5 _ (s7.trans s8) R8 eD8 ⟨z0, by omega⟩⟩
      · refine ⟨_, rfl, _, rfl, _, _, rfl, rfl, p, a, ns, _, rfl, R5, by omega, by omega, fun H4 z s6 R6 _ _ => ?_⟩
        have eD6 := s6 _ _ nDp eD5
        have s7 := s5.trans s6
        refine ⟨_, rfl, .inl ⟨rfl, _, SqL.of eD6⟩, _, rfl, rfl, _, rfl, ite2 (fun c2 => ?_) (fun c2 => ?_)⟩
        · refine ⟨_, rfl, _, rfl, _, _, rfl, _, _, rfl, D, _, _, rfl, rfl, eD6, ?_, ?_⟩
          · rw [List.length_map]
            exact small1000 (by omega)
          · exact ⟨_, _, _, rfl, app H4 _ s7 R6 eD6 (by split <;> split <;> omega)⟩
        · refine ⟨_, rfl, _, rfl, _, _, rfl, rfl, p, a, ns, _, rfl, R6, by omega, by omega, fun H5 z2 s8 R8 z0 z1 => ?_⟩
          have eD8 := s8 _ _ nDp eD6
          refine ⟨D, _, _, rfl, rfl, eD8, ?_, ?_⟩
          · rw [List.length_map]
            exact small1000 (by omega)
          · exact ⟨_, _, _, rfl, app H5 _ (s7.trans s8) R8 eD8 ⟨z0, by omega⟩⟩
    · rintro σ H2 ⟨acc, y5, y6, rfl, s3, R3, eD, hl, hb⟩
      refine ⟨_, rfl, D, _, rfl, .inl ⟨SqL.of eD, fun t nt => ?_⟩⟩
      exact q _ t acc (s1.trans (s3.trans (SameB.of (same_upd nt)))) (R3.same (same_upd nt)) upd_same (Hts.of_mem hl hb)
/-! ### _law_after -/
theorem scAfter : FnScope ["_law_web", "_law_roof", "_law_heights_here", "_law_deed"] ["_law_web", "_law_roof", "_law_heights_here"] (defScope sAfter) := ⟨rfl, rfl, rfl, by decide +kernel, rfl, by decide +kernel, by decide +kernel⟩
def spAfter : Sp := fun vs H Q _ => ∃ (wb a : Addr) (n : Nat) (roof : Int) (E : Ed) (hs : List Int), vs = [.ref wb, .int roof, .ref a] ∧ WebAt H wb n E ∧ EdIn E n ∧ n ≤ 40 ∧ HtAt H a hs ∧ hs.length = n ∧
  ∀ H' p rs, Same H H' → H p = none → H' p = some (.lst (rs.map V.ref)) → LsAt aF H' rs (afterL E n roof hs) → Q (.ref p) H'
theorem deedsL_len (E : Ed) (n : Nat) (roof : Int) (hs : List Int) : (deedsL E n roof hs).length ≤ n + n := by
  unfold deedsL
  rw [List.length_append]
  have h1 := upL_len E n roof hs n
  have h2 := downL_len E n hs n
  omega
theorem ok_after {f : Addr} {fd : FuncData} (G : Got K mg "_law_after" sAfter ["_law_web", "_law_roof", "_law_heights_here"] f fd) (D1 : Dfn P w K mg base 2 "_law_deeds" ["_law_web", "_law_roof", "_law_heights_here"] spDeeds) (D2 : Dfn P w K mg base 1 "_law_step" ["_law_heights_here", "_law_deed"] spStep) : Dfn P w K mg base 3 "_law_after" ["_law_web", "_law_roof", "_law_heights_here"] spAfter := by
  refine G.dfn (G.F.ok scAfter (fun vs H Q E h => ?_) (fun cdv A outer s H vs Q E hr h => ?_))
  · obtain ⟨wb, a, n, roof, E, hs, rfl, _⟩ := h
    rfl
  · obtain ⟨wb, a, n, roof, E, hs, rfl, W, hE, h40, ha, hn, q⟩ := h
    refine ⟨_, pss_one (ps_ret (pe_lc (own := [("_law_deed", 3)]) (g := gName 3) (tt := tYes) rfl scAfter.nd (pi_list (pe_cd D1 hr (by decide) (by rfl) (pa_cons (pv 0) (pa_cons (pv 1) (pa_cons (pv 2) pa_nil)))))
      (blkOk_by (N := ["_law_web", "_law_roof", "_law_heights_here", "_law_deed"]) (sc := defScope sAfter) (by decide +kernel))
      (fun _ _ _ _ _ => pg_name (i := 3) scAfter.nd rfl (.inl rfl))
      (fun _ _ _ _ _ => pts_nil)
      (fun _ _ _ _ _ => pe_tup (pa_cons (pv 3) (pa_cons (pe_cd D2 hr (by decide) (by rfl) (pa_cons (pv 2) (pa_cons (pv 3) pa_nil))) pa_nil))))), ?_⟩
    refine ⟨_, rfl, _, rfl, _, rfl, wb, a, n, roof, E, hs, rfl, W, hE, h40, ha, hn, fun H1 p rs s1 hp hrs => ⟨p, rfl, ⟨_, SqL.of hp⟩, fun D hD => ?_⟩⟩
    have hrl := hrs.len
    have hdl := deedsL_len E n roof hs
    refine lc_it (walk_list (K := K) (a := p) (xs := rs.map V.ref)) (fun i H' => Same H1 H' ∧ ∃ ts : List Addr, H' D = some (.lst (ts.map V.ref)) ∧ LsAt aF H' ts (((deedsL E n roof hs).take i).map (stepH hs)))
      ⟨same_upd hD, [], upd_same, LsAt.nil⟩ (fun i H' _ ⟨s2, _⟩ => SqL.of (s2 _ _ hp)) ?_ ?_
    · rintro i x H2 H3 hi ⟨s2, ts, eD, hts⟩ ⟨rfl, hx⟩
      obtain ⟨r, d, rfl, hd, hr1⟩ := hrs.get hx
      have hr2 : H3 r = some (.tup [.bl d.1, .int d.2]) := s2 _ _ hr1
      have hdn : d.2 < hs.length := by rw [hn]; exact deeds_lt (List.mem_of_getElem? hd)
      rw [List.length_map, hrl] at hi
      refine ⟨rfl, tyes (iteT ?_)⟩
      refine ⟨_, rfl, _, rfl, _, rfl, a, r, hs, d, rfl, s2 _ _ (s1 _ _ ha), hr2, hdn, fun H4 qh s3 _ hq => ⟨by show 2 ≤ sizeLine; decide, fun t nt => ?_⟩⟩
      have s4 := s3.trans (same_upd (o := .tup [.ref r, .ref qh]) nt)
      have htl := hts.len
      rw [List.length_map, List.length_take] at htl
      refine ⟨_, s4 _ _ eD, ?_, ?_, ts ++ [t], ?_, ?_⟩
      · rw [List.length_map, htl]
        exact small1000 (by omega)
      · exact fun c o e => by
          rw [upd_ne (ne_of_none e hD)]
          exact s4 _ _ (s2 _ _ e)
      · rw [upd_same, List.map_append]
        rfl
      · have sT : SameT (L2.upd H4 t (.tup [.ref r, .ref qh])) (L2.upd (L2.upd H4 t (.tup [.ref r, .ref qh])) D (.lst (ts.map V.ref ++ [V.ref t]))) := SameT.upd (s4 _ _ eD)
        rw [List.take_add_one, hd, List.map_append]
        refine LsAt.snoc ((hts.mono aF_st (SameT.of s4)).mono aF_st sT) ?_
        exact aF_st _ _ _ _ sT ⟨r, qh, upd_same, (same_upd (o := .tup [.ref r, .ref qh]) nt) _ _ hq⟩
    · rintro H2 ⟨s2, ts, eD, hts⟩
      rw [List.length_map, hrl, List.take_length] at hts
      exact q _ D ts (s1.trans s2) (s1.free hD) eD hts
/-! ### _law_pick -/
theorem scPick : FnScope ["_law_row_here", "_law_things"] ["_law_row_here", "_law_things"] (defScope sPick) := ⟨rfl, rfl, rfl, by decide +kernel, rfl, by decide +kernel, by decide +kernel⟩
def spPick (K : PySem.W.Frag) : Sp := fun vs H Q _ => ∃ (p a l : Addr) (ns : List Int) (xs : List V), vs = [.ref p, .ref l] ∧ RowH K a ns p H ∧ H l = some (.lst xs) ∧ l ≠ p ∧ xs ≠ [] ∧ xs.length < 1000 ∧
  ∀ H' (i : Nat) x, SameB p H H' → RowH K a ns p H' → xs[i]? = some x → Q x H'
theorem ok_pick {f : Addr} {fd : FuncData} (G : Got K mg "_law_pick" sPick ["_law_row_here", "_law_things"] f fd) (T : Txt mg) (D1 : Dfn P w K mg base 1 "_law_taken" ["_law_row_here", "_law_many_here"] (spTaken K)) : Dfn P w K mg base 2 "_law_pick" ["_law_row_here", "_law_things"] (spPick K) := by
  refine G.dfn (G.F.ok scPick (fun vs H Q E h => ?_) (fun cdv A outer s H vs Q E hr h => ?_))
  · obtain ⟨p, a, l, ns, xs, rfl, _⟩ := h
    rfl
  · obtain ⟨p, a, l, ns, xs, rfl, R, hl, hlp, hne, hlen, q⟩ := h
    refine ⟨_, pss_one (ps_ret (pe_ix (r := rIxL K) ix_list (pv 1) (pe_cd D1 hr (by decide) (by rfl) (pa_cons (pv 0) (pa_cons (pe_callB call_len_seq (by rfl) T.len PySem.boot_len (pa_cons (pv 1) pa_nil)) pa_nil))) (fun _ _ => rfl))), ?_⟩
    have hpos : 0 < xs.length := List.length_pos_iff.mpr hne
    refine ⟨_, rfl, _, rfl, _, rfl, l, _, rfl, .inl (SqL.of hl), p, a, ns, _, rfl, R, by omega, by omega, fun H1 v s1 R1 v0 v1 => ?_⟩
    have hv : v.toNat < xs.length := by omega
    refine ⟨l, xs, v, xs[v.toNat], rfl, rfl, SqL.of (s1 _ _ hlp hl), at_of (j := v.toNat) (by omega) (List.getElem?_eq_getElem hv), ?_⟩
    exact q H1 v.toNat _ s1 R1 (List.getElem?_eq_getElem hv)
end
end Lv

namespace Lv
open PySem PySem.Spec PyProof.Rows L2 LamX NdefX LvL LvG LvM
section
variable {P : Program} {w : World} {K : PySem.W.Frag} {mg : Str → Option Value} {base : Heap}
/-! ### _law_there -/
theorem scThere : FnScope ["_law_row_here", "_law_web", "_law_roof", "_law_heights_here", "_law_here", "_law_turn"] ["_law_row_here", "_law_web", "_law_roof", "_law_heights_here"] (defScope sThere) := ⟨rfl, rfl, rfl, by decide +kernel, rfl, by decide +kernel, by decide +kernel⟩
def spThere (K : PySem.W.Frag) : Sp := fun vs H Q _ => ∃ (p a wb b0 : Addr) (ns : List Int) (n roof : Nat) (E : Ed) (hs : List Int), vs = [.ref p, .ref wb, .int roof, .ref b0] ∧ RowH K a ns p H ∧ WebAt H wb n E ∧ EdIn E n ∧ 1 ≤ n ∧ n ≤ 40 ∧ 1 ≤ roof ∧ roof ≤ 9 ∧ HtAt H b0 hs ∧ Hts n roof hs ∧
  ∀ H' q hs', SameB p H H' → RowH K a ns p H' → HtAt H' q hs' → Hts n roof hs' → Q (.ref q) H'
theorem ok_there {f : Addr} {fd : FuncData} (G : Got K mg "_law_there" sThere ["_law_row_here", "_law_web", "_law_roof", "_law_heights_here"] f fd) (T : Txt mg) (D1 : Dfn P w K mg base 1 "_law_taken" ["_law_row_here", "_law_many_here"] (spTaken K)) (D2 : Dfn P w K mg base 2 "_law_pick" ["_law_row_here", "_law_things"] (spPick K))
    (D3 : Dfn P w K mg base 3 "_law_after" ["_law_web", "_law_roof", "_law_heights_here"] spAfter) (D4 : Dfn P w K mg base 2 "_law_heights" ["_law_row_here", "_law_many_here", "_law_roof"] (spHeights K)) : Dfn P w K mg base 4 "_law_there" ["_law_row_here", "_law_web", "_law_roof", "_law_heights_here"] (spThere K) := by
  refine G.dfn (G.F.ok scThere (fun vs H Q E h => ?_) (fun cdv A outer s H vs Q E hr h => ?_))
  · obtain ⟨p, a, wb, b0, ns, n, roof, E, hs, rfl, _⟩ := h
    rfl
  · obtain ⟨p, a, wb, b0, ns, n, roof, E, hs, rfl, R, W, hE, n1, n40, r1, r9, hb0, v0, q⟩ := h
    refine ⟨_, pss_cons (ps_set (i := 4) scThere.nd rfl (.inl rfl) (pv 3))
      (pss_cons (ps_for PassesOwn.never rfl (pi_range1 (by rfl) T.range (pa_cons (pe_cd D1 hr (by decide) (by rfl) (pa_cons (pv 0) (pa_cons pe_int pa_nil))) pa_nil)) (pg_name (i := 5) scThere.nd rfl (.inl rfl))
        (pss_one (ps_set (i := 4) scThere.nd rfl (.inl rfl) (pe_ix (r := rIxT K) ix_tup (pe_cd D2 hr (by decide) (by rfl) (pa_cons (pv 0) (pa_cons (pe_cd D3 hr (by decide) (by rfl) (pa_cons (pv 1) (pa_cons (pv 2) (pa_cons (pv 4) pa_nil)))) pa_nil))) pe_int (fun _ _ => rfl)))))
      (pss_one (ps_ret (pe_cd D2 hr (by decide) (by rfl) (pa_cons (pv 0) (pa_cons (pe_lst (pa_cons (pv 4) (pa_cons (pv 4) (pa_cons (pv 4) (pa_cons (pe_cd D4 hr (by decide) (by rfl) (pa_cons (pv 0) (pa_cons (pe_ix (r := rIxT K) ix_tup (pv 1) pe_int (fun _ _ => rfl)) (pa_cons (pv 2) pa_nil)))) pa_nil))))) pa_nil)))))), ?_⟩
    obtain ⟨lr, hlr⟩ := R.lst
    refine ⟨_, rfl, _, rfl, p, a, ns, 14, rfl, R, by omega, by omega, fun H1 v s1 R1 v1 v2 => ?_⟩
    refine ⟨v, rfl, by omega, by omega, ?_⟩
    refine for_it (walk_range0 (n := v.toNat)) (fun i σ H' => ∃ (b : Addr) (hb : List Int) (y5 : Option V), σ = [some (.ref p), some (.ref wb), some (.int roof), some (.ref b0), some (.ref b), y5] ∧ SameB p H H' ∧ RowH K a ns p H' ∧ HtAt H' b hb ∧ Hts n roof hb)
      ⟨b0, hs, none, rfl, s1, R1, s1.tup hlr hb0, v0⟩ (fun _ _ _ _ _ => trivial) ?_ ?_
    · rintro i x σ H2 H3 hi ⟨b, hb, y5, rfl, s2, R2, hhb, vb⟩ ⟨rfl, rfl⟩
      have W2 := W.sameB s2 hlr
      obtain ⟨lr2, hlr2⟩ := R2.lst
      refine ⟨_, rfl, _, rfl, _, rfl, _, rfl, wb, b, n, roof, E, hb, rfl, W2, hE, n40, hhb, vb.len, fun H4 l rs s3 nl hl hrs => ?_⟩
      have R4 := R2.same s3
      obtain ⟨y, hy⟩ := deed_ex hE vb (by omega) (by omega)
      have hym := (mem_after (roof := (roof : Int)) hE vb.len).mpr hy
      have hlen : (afterL E n roof hb).length ≤ 80 := by
        unfold afterL
        rw [List.length_map]
        have := deedsL_len E n roof hb
        omega
      have hrl := hrs.len
      have hlr4 := s3 _ _ hlr2
      refine ⟨p, a, l, ns, rs.map V.ref, rfl, R4, hl, fun z => ?_, fun z => ?_, ?_, fun H5 j x s4 R5 hx => ?_⟩
      · rw [z, hlr2] at nl
        cases nl
      · have z2 := List.map_eq_nil_iff.mp z
        rw [z2] at hrl
        have : (afterL E n roof hb) = [] := List.length_eq_zero_iff.mp hrl.symm
        rw [this] at hym
        cases hym
      · rw [List.length_map]
        omega
      · obtain ⟨r, h', rfl, hh', d, qh, hr1, hq1⟩ := hrs.get hx
        have vh : Hts n roof h' := deed_hts vb ((mem_after hE vb.len).mp (List.mem_of_getElem? hh'))
        refine ⟨r, _, _, _, rfl, rfl, SqT.of (s4.tup hlr4 hr1), atI_nat (j := 1) rfl, ?_⟩
        exact ⟨qh, h', _, rfl, s2.trans ((SameB.of s3).trans s4), R5, s4.tup hlr4 hq1, vh⟩
    · rintro σ H2 ⟨b, hb, y5, rfl, s2, R2, hhb, vb⟩
      obtain ⟨lr2, hlr2⟩ := R2.lst
      obtain ⟨qe, res, hw, hq, hres⟩ := (W.sameB s2 hlr).ex
      refine ⟨_, rfl, _, rfl, _, rfl, _, rfl, _, rfl, _, rfl, wb, _, _, _, rfl, rfl, SqT.of hw, atI_nat (j := 0) rfl, _, rfl, p, a, ns, n, roof, rfl, R2, n40, r1, r9, fun H3 qh hh s3 R3 hqh vh => ?_⟩
      refine ⟨by show 4 ≤ sizeLine; decide, fun l nl => ?_⟩
      have s4 : Same H3 (L2.upd H3 l (.lst [.ref b, .ref b, .ref b, .ref qh])) := same_upd nl
      obtain ⟨lr3, hlr3⟩ := R3.lst
      refine ⟨p, a, l, ns, _, rfl, R3.same s4, upd_same, (fun z => by
        rw [z, hlr3] at nl
        cases nl), by simp, by show 4 < 1000; decide, fun H5 j x s5 R5 hx => ?_⟩
      have sA := s2.trans (s3.trans ((SameB.of s4).trans s5))
      have hb5 : HtAt H5 b hb := s5.tup (s4 _ _ hlr3) (s4 _ _ (s3.tup hlr2 hhb))
      have hq5 : HtAt H5 qh hh := s5.tup (s4 _ _ hlr3) (s4 _ _ hqh)
      match j, hx with
      | 0, hx => cases hx; exact q H5 b hb sA R5 hb5 vb
      | 1, hx => cases hx; exact q H5 b hb sA R5 hb5 vb
      | 2, hx => cases hx; exact q H5 b hb sA R5 hb5 vb
      | 3, hx => cases hx; exact q H5 qh hh sA R5 hq5 vh
      | j + 4, hx => simp at hx
/-! ### _law_alike -/
theorem scAlike : FnScope ["_law_found", "_law_due", "_law_k"] ["_law_found", "_law_due"] (defScope sAlike) := ⟨rfl, rfl, rfl, by decide +kernel, rfl, by decide +kernel, by decide +kernel⟩
/-- an int, or None -/
def IntN (v : V) : Prop := v = .non ∨ ∃ i, v = .int i
def spAlike : Sp := fun vs H Q _ => ∃ (x y : V), vs = [x, y] ∧ IntN x ∧ IntN y ∧ ∀ H', Same H H' → Q (.bl (decide (x = y))) H'
theorem ok_alike {f : Addr} {fd : FuncData} (G : Got K mg "_law_alike" sAlike ["_law_found", "_law_due"] f fd) (T : Txt mg) : Dfn P w K mg base 1 "_law_alike" ["_law_found", "_law_due"] spAlike := by
  refine G.dfn (G.F.ok scAlike (fun vs H Q E h => ?_) (fun cdv A outer s H vs Q E hr h => ?_))
  · obtain ⟨x, y, rfl, _⟩ := h
    rfl
  · obtain ⟨x, y, rfl, hx, hy, q⟩ := h
    have hu := hr.units
    have kN : ∀ b : String, kitB "NoneType" b = some false → PySem.W.kitOne K (.type "NoneType") (.type b) = some false := fun b h => kit_ty h
    refine ⟨_, pss_cons (ps_if (pt_val (pe_callB call_isiT (by rfl) T.isinstance (by decide +kernel) (pa_cons (pv 1) (pa_cons (pe_tup (pa_cons (pe_bltn (v := .ty "tuple") (by rfl) T.tuple (by decide +kernel) rfl) (pa_cons (pe_bltn (v := .ty "list") (by rfl) T.list (by decide +kernel) rfl) pa_nil))) pa_nil)))) pss_never pss_nil)
      (pss_cons (ps_if (PW.pt (pw_or (pt_cmpR op_isN (pv 1) pe_non (nomark _)) (pw_or1 (pt_val (pe_callB call_isi (by rfl) T.isinstance (by decide +kernel) (pa_cons (pv 1) (pa_cons (pe_bltn (v := .ty "str") (by rfl) T.str (by decide +kernel) rfl) pa_nil)))))))
        (pss_one (ps_ret (pe_and (pe_cmpR op_eq (pv 0) (pv 1) (nomark _)) (pe_one (pe_cmpR op_eq (pe_callB call_isi (by rfl) T.isinstance (by decide +kernel) (pa_cons (pv 0) (pa_cons (pe_bltn (v := .ty "str") (by rfl) T.str (by decide +kernel) rfl) pa_nil))) (pe_callB call_isi (by rfl) T.isinstance (by decide +kernel) (pa_cons (pv 1) (pa_cons (pe_bltn (v := .ty "str") (by rfl) T.str (by decide +kernel) rfl) pa_nil))) (nomark _)))))) pss_nil)
      (pss_one (ps_ret (pe_and (pe_callB call_isi (by rfl) T.isinstance (by decide +kernel) (pa_cons (pv 0) (pa_cons (pe_bltn (v := .ty "int") (by rfl) T.int (by decide +kernel) rfl) pa_nil)))
        (pe_and (pe_cmpR op_eq (pe_callB call_isi (by rfl) T.isinstance (by decide +kernel) (pa_cons (pv 0) (pa_cons (pe_bltn (v := .ty "bool") (by rfl) T.bool (by decide +kernel) rfl) pa_nil))) (pe_callB call_isi (by rfl) T.isinstance (by decide +kernel) (pa_cons (pv 1) (pa_cons (pe_bltn (v := .ty "bool") (by rfl) T.bool (by decide +kernel) rfl) pa_nil))) (nomark _))
        (pe_one (pe_cmpR op_eq (pv 0) (pv 1) (nomark _)))))))), ?_⟩
    refine ⟨_, rfl, by show 2 ≤ sizeLine; decide, fun t nt => ?_⟩
    have s1 : Same H (L2.upd H t (.tup [.ty "tuple", .ty "list"])) := same_upd nt
    rcases hy with rfl | ⟨m, rfl⟩
    · refine ⟨_, t, _, .type "NoneType", [.type "tuple", .type "list"], false, rfl, upd_same, .cons (.ty _) (.cons (.ty _) .nil), .base .non, kitAny_cons (b := false) (kit_ty (by decide +kernel)) (fun _ => kitAny_cons (b := false) (kit_ty (by decide +kernel)) (fun _ => rfl) (fun z => nomatch z)) (fun z => nomatch z), false, rfl, ?_⟩
      refine iteF ?_
      refine ⟨_, rfl, rfl, _, rfl, ?_⟩
      refine iteT (iteT ?_)
      rcases hx with rfl | ⟨i, rfl⟩
      · refine ⟨_, rfl, _, rfl, rfl, _, rfl, ?_⟩
        refine ite2 (fun _ => ?_) (fun c => absurd (decide_eq_true rfl) c)
        refine ⟨_, rfl, _, _, _, _, false, rfl, .ty "str", .base .non, kit_ty (by decide +kernel), _, rfl, _, _, _, _, false, rfl, .ty "str", .base .non, kit_ty (by decide +kernel), rfl, ?_⟩
        exact q _ s1
      · refine ⟨_, rfl, _, rfl, rfl, _, rfl, ?_⟩
        have e1 : decide (V.int i = V.non) = false := decide_eq_false (fun z => by cases z)
        refine ite2 (fun c => absurd (e1.symm.trans c) Bool.false_ne_true) (fun _ => ?_)
        have q := q _ s1
        rw [e1] at q
        exact q
    · refine ⟨_, t, _, .type "int", [.type "tuple", .type "list"], false, rfl, upd_same, .cons (.ty _) (.cons (.ty _) .nil), .base (.int m), kitAny_cons (b := false) (kit_ty (by decide +kernel)) (fun _ => kitAny_cons (b := false) (kit_ty (by decide +kernel)) (fun _ => rfl) (fun z => nomatch z)) (fun z => nomatch z), false, rfl, ?_⟩
      refine iteF ?_
      refine ⟨_, rfl, rfl, _, rfl, ?_⟩
      refine iteF ?_
      refine ⟨_, rfl, _, _, _, _, false, rfl, .ty "str", .base (.int m), kit_ty (by decide +kernel), _, rfl, ?_⟩
      refine iteF ?_
      rcases hx with rfl | ⟨i, rfl⟩
      · refine ⟨_, rfl, _, _, _, _, false, rfl, .ty "int", .base .non, kit_ty (by decide +kernel), _, rfl, ?_⟩
        refine iteF ?_
        have e1 : decide (V.non = V.int m) = false := decide_eq_false (fun z => by cases z)
        have q := q _ s1
        rw [e1] at q
        exact q
      · refine ⟨_, rfl, _, _, _, _, true, rfl, .ty "int", .base (.int i), kit_ty (by decide +kernel), _, rfl, ?_⟩
        refine iteT ?_
        refine ⟨_, rfl, _, _, _, _, false, rfl, .ty "bool", .base (.int i), kit_ty (by decide +kernel), _, rfl, _, _, _, _, false, rfl, .ty "bool", .base (.int m), kit_ty (by decide +kernel), rfl, _, rfl, ?_⟩
        refine iteT ?_
        refine ⟨_, rfl, _, rfl, rfl, ?_⟩
        exact q _ s1
end
end Lv

namespace Lv
open PySem PySem.Spec PyProof.Rows L2 LamX NdefX LvL LvG LvM
/-! ### all heights -/
def growH (roof : Nat) (o : List Int) : List (List Int) := (List.range (roof + 1)).map fun (h : Nat) => o ++ [(h : Int)]
def allH (roof : Nat) : Nat → List (List Int)
  | 0 => [[]]
  | n + 1 => (allH roof n).flatMap (growH roof)
theorem growH_len (roof : Nat) (o : List Int) : (growH roof o).length = roof + 1 := by
  unfold growH
  rw [List.length_map, List.length_range]
theorem flat_len (roof : Nat) : ∀ l : List (List Int), (l.flatMap (growH roof)).length = l.length * (roof + 1)
  | [] => by simp
  | o :: r => by
    rw [List.flatMap_cons, List.length_append, growH_len, flat_len roof r, List.length_cons, Nat.add_mul, Nat.one_mul, Nat.add_comm]
theorem allH_len (roof : Nat) : ∀ n, (allH roof n).length = (roof + 1) ^ n
  | 0 => rfl
  | n + 1 => by
    show ((allH roof n).flatMap (growH roof)).length = _
    rw [flat_len, allH_len roof n, Nat.pow_succ]
/-- heights' tuple -/
def hF (H : Hp) (r : Addr) (h : List Int) : Prop := HtAt H r h
theorem hF_st : TupSt hF := fun _ _ _ _ s h => s _ _ h
def softE (E : Ed) (hs : List Int) : Bool := E.all fun e => !decide (LvM.at_ hs e.1 + 1 < LvM.at_ hs e.2) && !decide (LvM.at_ hs e.2 + 1 < LvM.at_ hs e.1)
section
variable {P : Program} {w : World} {K : PySem.W.Frag} {mg : Str → Option Value} {base : Heap}
/-! ### _law_every -/
theorem scEvery : FnScope ["_law_many_here", "_law_roof", "_law_found", "_law_k", "_law_more", "_law_one", "_law_height"] ["_law_many_here", "_law_roof"] (defScope sEvery) := ⟨rfl, rfl, rfl, by decide +kernel, rfl, by decide +kernel, by decide +kernel⟩
def spEvery : Sp := fun vs H Q _ => ∃ (n roof : Nat), vs = [.int n, .int roof] ∧ n ≤ 40 ∧ roof ≤ 9 ∧ (roof + 1) ^ n ≤ 500 ∧ ∀ H' p rs, Same H H' → H' p = some (.lst (rs.map V.ref)) → LsAt hF H' rs (allH roof n) → Q (.ref p) H'
theorem ok_every {f : Addr} {fd : FuncData} (G : Got K mg "_law_every" sEvery ["_law_many_here", "_law_roof"] f fd) (T : Txt mg) : Dfn P w K mg base 1 "_law_every" ["_law_many_here", "_law_roof"] spEvery := by
  refine G.dfn (G.F.ok scEvery (fun vs H Q E h => ?_) (fun cdv A outer s H vs Q E hr h => ?_))
  · obtain ⟨n, roof, rfl, _⟩ := h
    rfl
  · obtain ⟨n, roof, rfl, h40, r9, h5, q⟩ := h
    refine ⟨_, pss_cons (ps_set (i := 2) scEvery.nd rfl (.inl rfl) (pe_lst (pa_cons (pe_tup pa_nil) pa_nil)))
      (pss_cons (ps_for PassesOwn.never rfl (pi_range1 (by rfl) T.range (pa_cons (pv 0) pa_nil)) (pg_name (i := 3) scEvery.nd rfl (.inl rfl))
        (pss_cons (ps_set (i := 4) scEvery.nd rfl (.inl rfl) (pe_lst pa_nil))
        (pss_cons (ps_for PassesOwn.never rfl (pi_list (pv 2)) (pg_name (i := 5) scEvery.nd rfl (.inr rfl))
          (pss_one (ps_set (i := 4) scEvery.nd rfl (.inl rfl) (pe_op op_cat (pv 4) (pe_lc (own := [("_law_height", 6)]) (g := gName 6) (tt := tYes) rfl scEvery.nd (pi_range1 (by rfl) T.range (pa_cons (pe_op op_add (pv 1) pe_int) pa_nil))
            (blkOk_by (N := ["_law_many_here", "_law_roof", "_law_found", "_law_k", "_law_more", "_law_one", "_law_height"]) (sc := defScope sEvery) (by decide +kernel))
            (fun _ _ _ _ _ => pg_name (i := 6) scEvery.nd rfl (.inl rfl))
            (fun _ _ _ _ _ => pts_nil)
            (fun _ _ _ _ _ => pe_op (r := rCatA K) op_catA (pv 5) (pe_tup (pa_cons (pv 6) pa_nil))))))))
        (pss_one (ps_set (i := 2) scEvery.nd rfl (.inl rfl) (pv 4))))))
      (pss_one (ps_ret (pv 2)))), ?_⟩
    refine ⟨Nat.zero_le _, fun t0 nt0 => ⟨by show 1 ≤ sizeLine; decide, fun l0 nl0 => ?_⟩⟩
    have s1 := (same_upd (o := .tup []) nt0).trans (same_upd (o := .lst [.ref t0]) nl0)
    refine ⟨_, rfl, (n : Int), rfl, by omega, by omega, ?_⟩
    rw [show ((n : Int)).toNat = n by omega]
    refine for_it (walk_range0 (n := n)) (fun i σ H' => ∃ (l : Addr) (rs : List Addr) (y3 y4 y5 y6 : Option V), σ = [some (.int n), some (.int roof), some (.ref l), y3, y4, y5, y6] ∧ Same H H' ∧ H' l = some (.lst (rs.map V.ref)) ∧ LsAt hF H' rs (allH roof i))
      ⟨l0, [t0], none, none, none, none, rfl, s1, upd_same, LsAt.one ((same_upd (o := .lst [.ref t0]) nl0) _ _ upd_same)⟩ (fun _ _ _ _ _ => trivial) ?_ ?_
    · rintro i x σ H1 H2 hi ⟨l, rs, y3, y4, y5, y6, rfl, s2, hl, hrs⟩ ⟨rfl, rfl⟩
      refine ⟨Nat.zero_le _, fun m0 nm0 => ?_⟩
      have hrl := hrs.len
      have hal := allH_len roof i
      have hpow : (roof + 1) ^ i * (roof + 1) ≤ 500 := by
        rw [← Nat.pow_succ]
        exact Nat.le_trans (Nat.pow_le_pow_right (by omega) (by omega)) h5
      have sm := same_upd (o := .lst []) nm0
      refine ⟨_, rfl, l, rfl, ⟨_, SqL.of (sm _ _ hl)⟩, for_it (walk_list (K := K) (a := l) (xs := rs.map V.ref)) (fun j σ H' => ∃ (m : Addr) (ms : List Addr) (z5 z6 : Option V), σ = [some (.int n), some (.int roof), some (.ref l), some (.int (i : Nat)), some (.ref m), z5, z6] ∧ Same H2 H' ∧ H' m = some (.lst (ms.map V.ref)) ∧ LsAt hF H' ms (((allH roof i).take j).flatMap (growH roof)))
        ⟨m0, [], y5, y6, rfl, sm, upd_same, LsAt.nil⟩ (fun j σ H' _ ⟨_, _, _, _, _, s3, _⟩ => SqL.of (s3 _ _ hl)) ?_ ?_⟩
      · rintro j x σ H3 H4 hj ⟨m, ms, z5, z6, rfl, s3, hm, hms⟩ ⟨rfl, hx⟩
        obtain ⟨r, o, rfl, ho, hro⟩ := (hrs.mono hF_st (SameT.of s3)).get hx
        have hro : HtAt H4 r o := hro
        rw [List.length_map] at hj
        have hml := hms.len
        have hmb : ms.length + (roof + 1) ≤ 500 := by
          rw [hml, flat_len, List.length_take]
          have h1 : min j (allH roof i).length + 1 ≤ (allH roof i).length := by omega
          have h2 : (min j (allH roof i).length + 1) * (roof + 1) ≤ (allH roof i).length * (roof + 1) := Nat.mul_le_mul_right _ h1
          rw [Nat.add_mul, Nat.one_mul] at h2
          rw [hal] at h2
          rw [hal]
          omega
        refine ⟨_, rfl, _, rfl, _, _, rfl, rfl, (roof : Int) + 1, rfl, by omega, by omega, fun D hD => ?_⟩
        rw [show ((roof : Int) + 1).toNat = roof + 1 by omega]
        refine lc_it (walk_range0 (n := roof + 1)) (fun k H' => Same H4 H' ∧ ∃ ts : List Addr, H' D = some (.lst (ts.map V.ref)) ∧ LsAt hF H' ts ((List.range k).map fun (h : Nat) => o ++ [(h : Int)]))
          ⟨same_upd hD, [], upd_same, LsAt.nil⟩ (fun _ _ _ _ => trivial) ?_ ?_
        · rintro k x H5 H6 hk ⟨s4, ts, eD, hts⟩ ⟨rfl, rfl⟩
          refine ⟨rfl, tyes (iteT ?_)⟩
          refine ⟨_, rfl, _, rfl, by show 1 ≤ sizeLine; decide, fun t nt => ?_⟩
          have s5 := same_upd (o := .tup [.int (k : Nat)]) nt
          have htl := hts.len
          rw [List.length_map, List.length_range] at htl
          have hro6 : HtAt H6 r o := s4 _ _ hro
          -- behind the new tuple
          have go : ∀ (H7 : Hp) (u : Addr), Same H6 H7 → HtAt H7 u (o ++ [((k : Nat) : Int)]) → ∃ acc, H7 D = some (.lst acc) ∧ acc.length < sizeLine ∧ Same H4 (L2.upd H7 D (.lst (acc ++ [V.ref u]))) ∧ ∃ ts : List Addr, L2.upd H7 D (.lst (acc ++ [V.ref u])) D = some (.lst (ts.map V.ref)) ∧ LsAt hF (L2.upd H7 D (.lst (acc ++ [V.ref u]))) ts ((List.range (k + 1)).map fun (h : Nat) => o ++ [(h : Int)]) := by
            intro H7 u s7 hu7
            refine ⟨_, s7 _ _ eD, ?_, ?_, ts ++ [u], ?_, ?_⟩
            · rw [List.length_map, htl]
              exact small1000 (by omega)
            · exact fun c o e => by
                rw [upd_ne (ne_of_none e hD)]
                exact s7 _ _ (s4 _ _ e)
            · rw [upd_same, List.map_append]
              rfl
            · have sT : SameT H7 (L2.upd H7 D (.lst (ts.map V.ref ++ [V.ref u]))) := SameT.upd (s7 _ _ eD)
              rw [List.range_succ, List.map_append]
              exact LsAt.snoc ((hts.mono hF_st (SameT.of s7)).mono hF_st sT) (hF_st _ _ _ _ sT hu7)
          refine ⟨r, t, _, _, rfl, rfl, SqT.of (s5 _ _ hro6), SqT.of upd_same, ?_, fun e => ?_, fun _ e => ?_, fun _ _ u nu => ?_⟩
          · rw [List.length_map]
            show o.length + 1 ≤ sizeLine
            have hol : o.length ≤ 40 := by
              have h1 : ∀ (m : Nat) (o : List Int), o ∈ allH roof m → o.length = m := fun m => by
                induction m with
                | zero => intro o ho; rw [List.mem_singleton.mp ho]; rfl
                | succ m ih =>
                  intro o ho
                  obtain ⟨o2, ho2, h2⟩ := List.mem_flatMap.mp ho
                  obtain ⟨h, _, rfl⟩ := List.mem_map.mp h2
                  rw [List.length_append, ih o2 ho2]
                  rfl
              rw [h1 i o (List.mem_of_getElem? ho)]
              omega
            exact Nat.le_of_lt (small1000 (by omega))
          · have e := List.map_eq_nil_iff.mp e
            subst e
            exact go _ t s5 upd_same
          · cases e
          · refine go _ u (s5.trans (same_upd nu)) ?_
            show L2.upd _ u _ u = _
            rw [upd_same, List.map_append]
            rfl
        · rintro H5 ⟨s4, ts, eD, hts⟩
          have htl := hts.len
          rw [List.length_map, List.length_range] at htl
          refine ⟨m, D, _, _, rfl, rfl, s4 _ _ hm, eD, ?_, fun p np => ?_⟩
          · rw [List.length_map, List.length_map, htl]
            exact Nat.le_of_lt (small1000 (by omega))
          · have s5 : Same H5 (L2.upd H5 p (.lst (ms.map V.ref ++ ts.map V.ref))) := same_upd np
            have s6 := s4.trans s5
            refine ⟨p, ms ++ ts, _, _, rfl, s3.trans s6, by rw [upd_same, List.map_append], ?_⟩
            rw [List.take_add_one, ho, List.flatMap_append]
            refine (hms.mono hF_st (SameT.of s6)).append ?_
            show LsAt hF _ ts ([o].flatMap (growH roof))
            rw [List.flatMap_cons, List.flatMap_nil, List.append_nil]
            exact hts.mono hF_st (SameT.of s5)
      · rintro σ H3 ⟨m, ms, z5, z6, rfl, s3, hm, hms⟩
        rw [List.length_map, hrl, List.take_length] at hms
        exact ⟨_, rfl, m, ms, _, _, _, _, rfl, s2.trans s3, hm, hms⟩
    · rintro σ H1 ⟨l, rs, y3, y4, y5, y6, rfl, s2, hl, hrs⟩
      exact ⟨_, rfl, q H1 l rs s2 hl hrs⟩
/-! ### _law_steep -/
theorem scSteep : FnScope ["_law_web", "_law_heights_here", "_law_found", "_law_a", "_law_b"] ["_law_web", "_law_heights_here"] (defScope sSteep) := ⟨rfl, rfl, rfl, by decide +kernel, rfl, by decide +kernel, by decide +kernel⟩
def spSteep : Sp := fun vs H Q _ => ∃ (wb a : Addr) (n : Nat) (E : Ed) (hs : List Int), vs = [.ref wb, .ref a] ∧ WebAt H wb n E ∧ EdIn E n ∧ E.length ≤ 100 ∧ HtAt H a hs ∧ hs.length = n ∧ ∀ H' p rs ps, Same H H' → H' p = some (.lst (rs.map V.ref)) → PrAt H' rs ps → (ps = [] ↔ softE E hs = true) → Q (.ref p) H'
theorem ok_steep {f : Addr} {fd : FuncData} (G : Got K mg "_law_steep" sSteep ["_law_web", "_law_heights_here"] f fd) (T : Txt mg) : Dfn P w K mg base 1 "_law_steep" ["_law_web", "_law_heights_here"] spSteep := by
  refine G.dfn (G.F.ok scSteep (fun vs H Q E h => ?_) (fun cdv A outer s H vs Q E hr h => ?_))
  · obtain ⟨wb, a, n, E, hs, rfl, _⟩ := h
    rfl
  · obtain ⟨wb, a, n, E, hs, rfl, W, hE, hEl, ha, hn, q⟩ := h
    obtain ⟨qe, res, hw, hq, hres⟩ := W.ex
    refine ⟨_, pss_cons (ps_setLc (i := 2) (own := [("_law_a", 3), ("_law_b", 4)]) (g := gTup K 2 (gCons (gName 3) (gCons (gName 4) gNil))) rfl scSteep.nd rfl rfl (sw_true rfl rfl rfl (by decide +kernel)) (pi_tup (pe_ix (r := rIxT K) ix_tup (pv 0) pe_int (fun _ _ => rfl)))
        (blkOk_by (N := ["_law_web", "_law_heights_here", "_law_found", "_law_a", "_law_b"]) (sc := defScope sSteep) (by decide +kernel))
        (fun _ _ _ _ _ => pg_tup rfl (pgs_cons (pg_name (i := 3) scSteep.nd rfl (.inl rfl)) (pgs_cons (pg_name (i := 4) scSteep.nd rfl (.inl rfl)) pgs_nil)))
        (fun _ _ _ _ _ => pts_one (pt_cmpR op_gt (pe_ix (r := rIxT K) ix_tup (pv 1) (pv 4) (fun _ _ => rfl)) (pe_op op_add (pe_ix (r := rIxT K) ix_tup (pv 1) (pv 3) (fun _ _ => rfl)) pe_int) (nomark _)))
        (fun _ _ _ _ _ => pe_tup (pa_cons (pv 3) (pa_cons (pv 4) pa_nil))))
      (pss_one (ps_ret (pe_callB cr_sortedP (by rfl) T.sorted (by decide +kernel) (pa_cons (pe_op op_cat (pv 2) (pe_lc (own := [("_law_a", 3), ("_law_b", 4)]) (g := gTup K 2 (gCons (gName 3) (gCons (gName 4) gNil))) rfl scSteep.nd (pi_tup (pe_ix (r := rIxT K) ix_tup (pv 0) pe_int (fun _ _ => rfl)))
        (blkOk_by (N := ["_law_web", "_law_heights_here", "_law_found", "_law_a", "_law_b"]) (sc := defScope sSteep) (by decide +kernel))
        (fun _ _ _ _ _ => pg_tup rfl (pgs_cons (pg_name (i := 3) scSteep.nd rfl (.inl rfl)) (pgs_cons (pg_name (i := 4) scSteep.nd rfl (.inl rfl)) pgs_nil)))
        (fun _ _ _ _ _ => pts_one (pt_cmpR op_gt (pe_ix (r := rIxT K) ix_tup (pv 1) (pv 3) (fun _ _ => rfl)) (pe_op op_add (pe_ix (r := rIxT K) ix_tup (pv 1) (pv 4) (fun _ _ => rfl)) pe_int) (nomark _)))
        (fun _ _ _ _ _ => pe_tup (pa_cons (pv 4) (pa_cons (pv 3) pa_nil))))) pa_nil)))), ?_⟩
    have hrl := hres.len
    simp at hrl
    refine ⟨_, rfl, wb, _, _, _, rfl, rfl, SqT.of hw, atI_nat (j := 1) rfl, qe, rfl, ⟨_, SqT.of hq⟩, fun D hD => ?_⟩
    refine lc_it (walk_tup (K := K) (a := qe) (xs := res.map V.ref)) (fun i H' => Same H H' ∧ ∃ (ts : List Addr) (ps : List (Int × Int)), H' D = some (.lst (ts.map V.ref)) ∧ PrAt H' ts ps ∧ ps.length ≤ i ∧ (ps = [] ↔ (E.take i).all (fun e => !decide (LvM.at_ hs e.1 + 1 < LvM.at_ hs e.2)) = true))
      ⟨same_upd hD, [], [], upd_same, .nil, Nat.zero_le _, by simp⟩ (fun i H' _ ⟨s1, _⟩ => SqT.of (s1 _ _ hq)) ?_ ?_
    · rintro i x H1 H2 hi ⟨s1, ts, ps, eD, hts, hpl, hps⟩ ⟨rfl, hx⟩
      rw [List.length_map, hrl] at hi
      have hri : res[i]? = some (res[i]'(by omega)) := List.getElem?_eq_getElem (by omega)
      have hEi : E[i]? = some E[i] := List.getElem?_eq_getElem hi
      have ex : x = .ref (res[i]'(by omega)) := by
        rw [List.getElem?_map, hri] at hx
        exact (Option.some.inj hx).symm
      subst ex
      have hr0 := hres.at_ i _ _ hri (by show (castE E)[i]? = _; rw [List.getElem?_map, hEi]; rfl)
      have hin := hE E[i] (List.getElem_mem hi)
      generalize E[i] = ed at hEi hr0 hin
      obtain ⟨x1, x2⟩ := ed
      have ha1 := s1 _ _ ha
      have hx1 := at_vint (at_getD (ns := hs) (i := x1) (by rw [hn]; exact hin.1))
      have hx2 := at_vint (at_getD (ns := hs) (i := x2) (by rw [hn]; exact hin.2))
      refine ⟨_, _, rfl, SqT.of (s1 _ _ hr0), rfl, _, _, rfl, _, [], rfl, rfl, rfl, ?_⟩
      refine ⟨_, rfl, _, rfl, a, _, _, _, rfl, rfl, SqT.of ha1, atI_nat hx2, _, rfl, _, rfl, a, _, _, _, rfl, rfl, SqT.of ha1, atI_nat hx1, _, _, rfl, rfl, _, _, rfl, rfl, _, rfl, ?_⟩
      have etk : E.take (i + 1) = E.take i ++ [(x1, x2)] := by rw [List.take_add_one, hEi]; rfl
      have ecb : (E.take (i + 1)).all (fun e => !decide (LvM.at_ hs e.1 + 1 < LvM.at_ hs e.2)) = ((E.take i).all (fun e => !decide (LvM.at_ hs e.1 + 1 < LvM.at_ hs e.2)) && !decide (LvM.at_ hs x1 + 1 < LvM.at_ hs x2)) := by
        rw [etk, List.all_append]
        simp
      refine ite2 (fun c1 => ?_) (fun c1 => ?_)
      · have c1 : decide (LvM.at_ hs x1 + 1 < LvM.at_ hs x2) = true := c1
        refine ⟨_, rfl, _, rfl, by show 2 ≤ sizeLine; decide, fun t nt => ?_⟩
        have nDt : D ≠ t := ne_of_none eD nt
        have s2 := s1.trans (same_upd (o := .tup [.int (x1 : Nat), .int (x2 : Nat)]) nt)
        refine ⟨_, (by rw [upd_ne nDt]; exact eD), ?_, ?_, ts ++ [t], ps ++ [((x1 : Int), (x2 : Int))], ?_, ?_, ?_, ?_⟩
        · rw [List.length_map, hts.len]
          exact small1000 (by omega)
        · exact fun c o e => by
            rw [upd_ne (ne_of_none e hD)]
            exact s2 _ _ e
        · rw [upd_same, List.map_append]
          rfl
        · refine PrAt.upd (PrAt.snoc (hts.same (same_upd nt)) ?_) fun p z => ?_
          · rw [upd_same]
            rfl
          · rw [upd_ne nDt, eD] at z
            exact prV_ne _ _ z
        · rw [List.length_append, List.length_singleton]
          omega
        · rw [ecb, c1, Bool.not_true, Bool.and_false]
          simp
      · rw [Bool.not_eq_true] at c1
        have c1 : decide (LvM.at_ hs x1 + 1 < LvM.at_ hs x2) = false := c1
        refine ⟨s1, ts, ps, eD, hts, by omega, ?_⟩
        rw [ecb, c1, Bool.not_false, Bool.and_true]
        exact hps
    · rintro H1 ⟨s1, ts, ps, eD, hts, hpl, hps⟩
      rw [List.length_map, hrl] at hpl
      rw [List.length_map, hrl, List.take_length] at hps
      refine ⟨_, rfl, _, rfl, wb, _, _, _, rfl, rfl, SqT.of (s1 _ _ hw), atI_nat (j := 1) rfl, qe, rfl, ⟨_, SqT.of (s1 _ _ hq)⟩, fun D2 hD2 => ?_⟩
      refine lc_it (walk_tup (K := K) (a := qe) (xs := res.map V.ref)) (fun i H' => Same H1 H' ∧ ∃ (ts2 : List Addr) (ps2 : List (Int × Int)), H' D2 = some (.lst (ts2.map V.ref)) ∧ PrAt H' ts2 ps2 ∧ ps2.length ≤ i ∧ (ps2 = [] ↔ (E.take i).all (fun e => !decide (LvM.at_ hs e.2 + 1 < LvM.at_ hs e.1)) = true))
        ⟨same_upd hD2, [], [], upd_same, .nil, Nat.zero_le _, by simp⟩ (fun i H' _ ⟨s2, _⟩ => SqT.of (s2 _ _ (s1 _ _ hq))) ?_ ?_
      · rintro i x H2 H3 hi ⟨s2, ts2, ps2, eD2, hts2, hpl2, hps2⟩ ⟨rfl, hx⟩
        rw [List.length_map, hrl] at hi
        have hri : res[i]? = some (res[i]'(by omega)) := List.getElem?_eq_getElem (by omega)
        have hEi : E[i]? = some E[i] := List.getElem?_eq_getElem hi
        have ex : x = .ref (res[i]'(by omega)) := by
          rw [List.getElem?_map, hri] at hx
          exact (Option.some.inj hx).symm
        subst ex
        have hr0 := hres.at_ i _ _ hri (by show (castE E)[i]? = _; rw [List.getElem?_map, hEi]; rfl)
        have hin := hE E[i] (List.getElem_mem hi)
        generalize E[i] = ed at hEi hr0 hin
        obtain ⟨x1, x2⟩ := ed
        have sS := s1.trans s2
        have ha1 := sS _ _ ha
        have hx1 := at_vint (at_getD (ns := hs) (i := x1) (by rw [hn]; exact hin.1))
        have hx2 := at_vint (at_getD (ns := hs) (i := x2) (by rw [hn]; exact hin.2))
        refine ⟨_, _, rfl, SqT.of (sS _ _ hr0), rfl, _, _, rfl, _, [], rfl, rfl, rfl, ?_⟩
        refine ⟨_, rfl, _, rfl, a, _, _, _, rfl, rfl, SqT.of ha1, atI_nat hx1, _, rfl, _, rfl, a, _, _, _, rfl, rfl, SqT.of ha1, atI_nat hx2, _, _, rfl, rfl, _, _, rfl, rfl, _, rfl, ?_⟩
        have etk : E.take (i + 1) = E.take i ++ [(x1, x2)] := by rw [List.take_add_one, hEi]; rfl
        have ecb : (E.take (i + 1)).all (fun e => !decide (LvM.at_ hs e.2 + 1 < LvM.at_ hs e.1)) = ((E.take i).all (fun e => !decide (LvM.at_ hs e.2 + 1 < LvM.at_ hs e.1)) && !decide (LvM.at_ hs x2 + 1 < LvM.at_ hs x1)) := by
          rw [etk, List.all_append]
          simp
        refine ite2 (fun c1 => ?_) (fun c1 => ?_)
        · have c1 : decide (LvM.at_ hs x2 + 1 < LvM.at_ hs x1) = true := c1
          refine ⟨_, rfl, _, rfl, by show 2 ≤ sizeLine; decide, fun t nt => ?_⟩
          have nDt : D2 ≠ t := ne_of_none eD2 nt
          have s3 := s2.trans (same_upd (o := .tup [.int (x2 : Nat), .int (x1 : Nat)]) nt)
          refine ⟨_, (by rw [upd_ne nDt]; exact eD2), ?_, ?_, ts2 ++ [t], ps2 ++ [((x2 : Int), (x1 : Int))], ?_, ?_, ?_, ?_⟩
          · rw [List.length_map, hts2.len]
            exact small1000 (by omega)
          · exact fun c o e => by
              rw [upd_ne (ne_of_none e hD2)]
              exact s3 _ _ e
          · rw [upd_same, List.map_append]
            rfl
          · refine PrAt.upd (PrAt.snoc (hts2.same (same_upd nt)) ?_) fun p z => ?_
            · rw [upd_same]
              rfl
            · rw [upd_ne nDt, eD2] at z
              exact prV_ne _ _ z
          · rw [List.length_append, List.length_singleton]
            omega
          · rw [ecb, c1, Bool.not_true, Bool.and_false]
            simp
        · rw [Bool.not_eq_true] at c1
          have c1 : decide (LvM.at_ hs x2 + 1 < LvM.at_ hs x1) = false := c1
          refine ⟨s2, ts2, ps2, eD2, hts2, by omega, ?_⟩
          rw [ecb, c1, Bool.not_false, Bool.and_true]
          exact hps2
      · rintro H2 ⟨s2, ts2, ps2, eD2, hts2, hpl2, hps2⟩
        rw [List.length_map, hrl] at hpl2
        rw [List.length_map, hrl, List.take_length] at hps2
        have l1 := hts.len
        have l2 := hts2.len
        refine ⟨D, D2, _, _, rfl, rfl, s2 _ _ eD, eD2, ?_, fun p np => ?_⟩
        · rw [List.length_map, List.length_map]
          exact Nat.le_of_lt (small1000 (by omega))
        · have s3 : Same H2 (L2.upd H2 p (.lst (ts.map V.ref ++ ts2.map V.ref))) := same_upd np
          have hall : PrAt (L2.upd H2 p (.lst (ts.map V.ref ++ ts2.map V.ref))) (ts ++ ts2) (ps ++ ps2) := (hts.same (s2.trans s3)).append (hts2.same s3)
          have hpv : L2.upd H2 p (.lst (ts.map V.ref ++ ts2.map V.ref)) p = some (.lst ((ts ++ ts2).map V.ref)) := by rw [upd_same, List.map_append]
          refine ⟨p, _, rfl, SqL.of hpv, fun x hx => ?_, fun ys p2 hperm np2 => ?_⟩
          · obtain ⟨r, hr, rfl⟩ := List.mem_map.mp hx
            obtain ⟨j, hj, e⟩ := List.mem_iff_getElem.mp hr
            have hjl := hall.len
            have q0 := hall.at_ j r ((ps ++ ps2)[j]'(by omega)) (by rw [List.getElem?_eq_getElem hj, e]) (List.getElem?_eq_getElem (by omega))
            exact ⟨r, _, _, rfl, q0⟩
          · obtain ⟨rs', ps', rfl, hrs', hpp⟩ := hall.perm hperm
            have s4 := same_upd (o := .lst (rs'.map V.ref)) np2
            refine q _ p2 rs' ps' (s1.trans (s2.trans (s3.trans s4))) upd_same (hrs'.same s4) ?_
            have e1 : ps' = [] ↔ ps ++ ps2 = [] := ⟨fun z => by rw [z] at hpp; exact (List.Perm.nil_eq hpp).symm, fun z => by rw [z] at hpp; exact List.Perm.eq_nil hpp⟩
            rw [e1, List.append_eq_nil_iff, hps, hps2]
            unfold softE
            rw [List.all_eq_true, List.all_eq_true, List.all_eq_true]
            constructor
            · intro z e he
              rw [Bool.and_eq_true]
              exact ⟨z.1 e he, z.2 e he⟩
            · intro z
              exact ⟨fun e he => (Bool.and_eq_true _ _ ▸ z e he).1, fun e he => (Bool.and_eq_true _ _ ▸ z e he).2⟩
end
end Lv

namespace Lv
open PySem PySem.Spec PyProof.Rows L2 LamX NdefX LvL LvG LvM
/-! ### a list without repetition within another -/
theorem mem_erase_ne {α : Type} [DecidableEq α] {l : List α} {a b : α} (h : a ∈ l) (hne : a ≠ b) : a ∈ l.erase b := (List.mem_erase_of_ne hne).mpr h
theorem nodup_len {α : Type} [DecidableEq α] : ∀ {l m : List α}, l.Nodup → (∀ x ∈ l, x ∈ m) → l.length ≤ m.length
  | [], _, _, _ => Nat.zero_le _
  | a :: r, m, nd, h => by
    obtain ⟨n1, n2⟩ := List.nodup_cons.mp nd
    have ha := h a List.mem_cons_self
    have ih := nodup_len (l := r) (m := m.erase a) n2 fun x hx => mem_erase_ne (h x (List.mem_cons_of_mem _ hx)) fun z => n1 (by rw [← z]; exact hx)
    rw [List.length_erase_of_mem ha] at ih
    have := List.length_pos_of_mem ha
    rw [List.length_cons]
    omega
theorem allH_length {roof : Nat} : ∀ {n : Nat} {o : List Int}, o ∈ allH roof n → o.length = n
  | 0, o, h => by rw [List.mem_singleton.mp h]; rfl
  | n + 1, o, h => by
    obtain ⟨o2, ho2, h2⟩ := List.mem_flatMap.mp h
    obtain ⟨k, _, rfl⟩ := List.mem_map.mp h2
    rw [List.length_append, allH_length ho2]
    rfl
theorem mem_allH {roof : Nat} : ∀ {n : Nat} {o : List Int}, o ∈ allH roof n ↔ (o.length = n ∧ ∀ x ∈ o, 0 ≤ x ∧ x ≤ (roof : Int))
  | 0, o => by
    constructor
    · intro h
      rw [List.mem_singleton.mp h]
      exact ⟨rfl, fun x hx => by cases hx⟩
    · rintro ⟨h, _⟩
      rw [List.length_eq_zero_iff.mp h]
      exact List.mem_singleton.mpr rfl
  | n + 1, o => by
    constructor
    · intro h
      refine ⟨allH_length h, ?_⟩
      obtain ⟨o2, ho2, h2⟩ := List.mem_flatMap.mp h
      obtain ⟨k, hk, rfl⟩ := List.mem_map.mp h2
      have hk := List.mem_range.mp hk
      exact mem_snoc_bd (mem_allH.mp ho2).2 ⟨by omega, by omega⟩
    · rintro ⟨hl, hb⟩
      have hne : o ≠ [] := fun z => by rw [z] at hl; simp at hl
      have hx := hb (o.getLast hne) (List.getLast_mem hne)
      refine List.mem_flatMap.mpr ⟨o.dropLast, mem_allH.mpr ⟨by rw [List.length_dropLast]; omega, fun x hx => hb x (List.dropLast_subset o hx)⟩, List.mem_map.mpr ⟨(o.getLast hne).toNat, List.mem_range.mpr (by omega), ?_⟩⟩
      rw [show (((o.getLast hne).toNat : Nat) : Int) = o.getLast hne by omega]
      exact List.dropLast_concat_getLast hne
theorem mem_allH' {roof n : Nat} {o : List Int} : o ∈ allH roof n ↔ Hts n roof o := by
  rw [mem_allH]
  exact ⟨fun h => Hts.of_mem h.1 h.2, fun h => ⟨h.len, h.mem⟩⟩
/-! ### the search, level by level -/
structure Bfs (E : Ed) (n roof : Nat) (one : List Int) (d : Nat) (F : List (List Int × Nat)) (more : List (List Int)) : Prop where
  nd : (F.map (·.1)).Nodup
  ok : ∀ e ∈ F, Hts n roof e.1 ∧ Comes E one e.1 ∧ e.2 = dist one e.1 ∧ e.2 ≤ d + 1
  all : ∀ h, Hts n roof h → Comes E one h → dist one h ≤ d → h ∈ F.map (·.1)
  mo : ∀ h, h ∈ more ↔ (h, d + 1) ∈ F
  ml : more.length ≤ F.length
/-- all that come, each with its least number of deeds -/
structure FinF (E : Ed) (n roof : Nat) (one : List Int) (F : List (List Int × Nat)) : Prop where
  nd : (F.map (·.1)).Nodup
  ok : ∀ e ∈ F, Hts n roof e.1 ∧ Comes E one e.1 ∧ e.2 = dist one e.1
  all : ∀ h, Hts n roof h → Comes E one h → h ∈ F.map (·.1)
section
variable {E : Ed} {n roof : Nat} {one : List Int} {d : Nat} {F : List (List Int × Nat)} {more : List (List Int)}
theorem Bfs.len (B : Bfs E n roof one d F more) : F.length ≤ (roof + 1) ^ n := by
  have h := nodup_len B.nd (m := allH roof n) fun x hx => by
    obtain ⟨e, he, rfl⟩ := List.mem_map.mp hx
    exact mem_allH'.mpr (B.ok e he).1
  rw [List.length_map, allH_len] at h
  exact h
theorem Bfs.first (hE : EdIn E n) (v1 : Hts n roof one) : Bfs E n roof one 0 [(one, 0)] [] := by
  refine ⟨by simp, fun e he => ?_, fun h vh ch hd => ?_, fun h => ?_, by simp⟩
  · rw [List.mem_singleton.mp he]
    exact ⟨v1, comes_self E one, (dist_self one).symm, by show 0 ≤ 0 + 1; omega⟩
  · by_cases e : h = one
    · rw [e]
      exact List.mem_cons_self
    · have : ∃ k, k < h.length ∧ at_ one k ≠ at_ h k := by
        refine Classical.byContradiction fun z => e ?_
        have q : ∀ k, k < h.length → at_ one k = at_ h k := fun k hk => Classical.byContradiction fun w => z ⟨k, hk, w⟩
        refine List.ext_getElem (vh.len.trans v1.len.symm) fun i h1 h2 => ?_
        have e1 := q i h1
        rw [getD_of (List.getElem?_eq_getElem h2), getD_of (List.getElem?_eq_getElem h1)] at e1
        exact e1.symm
      exfalso
      obtain ⟨k, hk, hne⟩ := this
      have d0 : dist one h = 0 := by omega
      have s := dist_set one h k (at_ h k) (v1.len.trans vh.len.symm) hk
      -- a difference counts
      have key : ∀ (a b : List Int) (k : Nat), a.length = b.length → k < b.length → (at_ a k - at_ b k).natAbs ≤ dist a b := by
        intro a
        induction a with
        | nil => intro b k e hk; cases b with
          | nil => simp at hk
          | cons y b => simp at e
        | cons x a ih =>
          intro b k e hk
          cases b with
          | nil => simp at hk
          | cons y b =>
            cases k with
            | zero =>
              show (x - y).natAbs ≤ (x - y).natAbs + dist a b
              omega
            | succ k =>
              have := ih b k (by simpa using e) (by simpa using hk)
              show (at_ a k - at_ b k).natAbs ≤ (x - y).natAbs + dist a b
              omega
      have := key one h k (v1.len.trans vh.len.symm) hk
      omega
  · constructor
    · intro z; cases z
    · intro z
      have := List.mem_singleton.mp z
      injection this with _ e2
      cases e2
theorem mem_keys {h : List Int} (hm : h ∈ F.map (·.1)) : ∃ e, (h, e) ∈ F := by
  obtain ⟨⟨k, e⟩, he, rfl⟩ := List.mem_map.mp hm
  exact ⟨e, he⟩
/-- a new one is found -/
theorem Bfs.put {x y : List Int} (hE : EdIn E n) (v1 : Hts n roof one) (B : Bfs E n roof one d F more) (hx : (x, d) ∈ F) (hy : Deed E roof x y) (hn : y ∉ F.map (·.1)) : Bfs E n roof one d (F ++ [(y, d + 1)]) (more ++ [y]) := by
  obtain ⟨vx, cx, ex, _⟩ := B.ok _ hx
  have vy : Hts n roof y := deed_hts vx hy
  have cy : Comes E one y := deed_comes cx hy
  have dy : dist one y = d + 1 := by
    have h1 : ¬ dist one y ≤ d := fun z => hn (B.all y vy cy z)
    have h2 := deed_dist (one := one) (v1.len.trans vx.len.symm) hy
    have ex : d = dist one x := ex
    omega
  refine ⟨?_, fun e he => ?_, fun h vh ch hd => ?_, fun h => ?_, ?_⟩
  · rw [List.map_append, List.nodup_append]
    refine ⟨B.nd, by simp, fun a ha b hb z => ?_⟩
    rw [List.map_cons, List.map_nil, List.mem_singleton] at hb
    have hb : b = y := hb
    rw [z, hb] at ha
    exact hn ha
  · rcases List.mem_append.mp he with h | h
    · exact B.ok e h
    · rw [List.mem_singleton.mp h]
      exact ⟨vy, cy, dy.symm, Nat.le_refl _⟩
  · rw [List.map_append]
    exact List.mem_append_left _ (B.all h vh ch hd)
  · rw [List.mem_append, List.mem_append, B.mo h, List.mem_singleton, List.mem_singleton]
    constructor
    · rintro (z | z)
      · exact .inl z
      · exact .inr (by rw [z])
    · rintro (z | z)
      · exact .inl z
      · injection z with z1 z2
        exact .inr z1
  · rw [List.length_append, List.length_append, List.length_singleton, List.length_singleton]
    have := B.ml
    omega
/-- the next level -/
theorem Bfs.next {rows : List (List Int)} (hE : EdIn E n) (v1 : Hts n roof one) (B : Bfs E n roof one d F more) (hr : ∀ h, h ∈ rows ↔ (h, d) ∈ F) (hdone : ∀ x ∈ rows, ∀ y ∈ afterL E n roof x, y ∈ F.map (·.1)) : Bfs E n roof one (d + 1) F [] := by
  refine ⟨B.nd, fun e he => ?_, fun h vh ch hd => ?_, fun h => ?_, Nat.zero_le _⟩
  · obtain ⟨a, b, c, e1⟩ := B.ok e he
    exact ⟨a, b, c, by omega⟩
  · by_cases hle : dist one h ≤ d
    · exact B.all h vh ch hle
    · obtain ⟨x, vx, cx, dx, dd⟩ := comes_pred hE v1 vh ch (by omega)
      have hxk := B.all x vx cx (by omega)
      obtain ⟨e, he⟩ := mem_keys hxk
      have e2 : e = dist one x := (B.ok _ he).2.2.1
      have : e = d := by omega
      rw [this] at he
      exact hdone x ((hr x).mpr he) h ((mem_after hE vx.len).mpr dd)
  · constructor
    · intro z; cases z
    · intro z
      have := (B.ok _ z).2.2.2
      have : d + 1 + 1 ≤ d + 1 := this
      omega
/-- the end -/
theorem Bfs.fin (hE : EdIn E n) (v1 : Hts n roof one) (B : Bfs E n roof one d F more) (hr : ∀ h, (h, d) ∉ F) : FinF E n roof one F := by
  refine ⟨B.nd, fun e he => ⟨(B.ok e he).1, (B.ok e he).2.1, (B.ok e he).2.2.1⟩, fun h vh ch => ?_⟩
  have no : ∀ (m : Nat) (h : List Int), Hts n roof h → Comes E one h → dist one h = d + m → False := by
    intro m
    induction m with
    | zero =>
      intro h vh ch hd
      obtain ⟨e, he⟩ := mem_keys (B.all h vh ch (by omega))
      have e2 : e = dist one h := (B.ok _ he).2.2.1
      rw [show e = d by omega] at he
      exact hr h he
    | succ m ih =>
      intro h vh ch hd
      obtain ⟨x, vx, cx, dx, _⟩ := comes_pred hE v1 vh ch (by omega)
      exact ih x vx cx (by omega)
  by_cases hle : dist one h ≤ d
  · exact B.all h vh ch hle
  · exact (no (dist one h - d) h vh ch (by omega)).elim
theorem Bfs.bound (v1 : Hts n roof one) (B : Bfs E n roof one d F more) {h : List Int} (hh : (h, d) ∈ F) : d ≤ n * roof := by
  obtain ⟨vh, _, e, _⟩ := B.ok _ hh
  have e : d = dist one h := e
  have := dist_le roof one h v1.mem vh.mem
  rw [v1.len] at this
  omega
end
/-! ### its dict -/
def kvT (F : List (List Int × Nat)) : List (List Key × V) := F.map fun e => (e.1.map Sum.inl, V.int ((e.2 : Nat) : Int))
theorem inl_kV (h : List Int) : (h.map (Sum.inl : Int → Key)).map kV = h.map V.int := by
  rw [List.map_map]
  rfl
theorem inl_inj {a b : List Int} (h : a.map (Sum.inl : Int → Key) = b.map Sum.inl) : a = b := by
  have := congrArg (List.map kV) h
  rw [inl_kV, inl_kV] at this
  exact (List.map_inj_right (fun x y e => V.int.inj e)).mp this
theorem valT_some : ∀ {F : List (List Int × Nat)} {h : List Int} {d : Nat}, (F.map (·.1)).Nodup → (h, d) ∈ F → valV (kvT F) (h.map Sum.inl) = some (V.int (d : Nat))
  | [], _, _, _, hm => by cases hm
  | e :: r, h, d, nd, hm => by
    have nd : (e.1 :: r.map (·.1)).Nodup := nd
    obtain ⟨n1, n2⟩ := List.nodup_cons.mp nd
    show valV ((e.1.map Sum.inl, V.int ((e.2 : Nat) : Int)) :: kvT r) (h.map Sum.inl) = _
    rcases List.mem_cons.mp hm with z | z
    · rw [← z, valV_pos rfl]
    · rw [valV_neg (fun q => n1 (by rw [inl_inj q]; exact List.mem_map.mpr ⟨(h, d), z, rfl⟩))]
      exact valT_some n2 z
theorem valT_none : ∀ {F : List (List Int × Nat)} {h : List Int}, h ∉ F.map (·.1) → valV (kvT F) (h.map Sum.inl) = none
  | [], _, _ => rfl
  | e :: r, h, hm => by
    have h1 : e.1 ≠ h := fun z => hm (by rw [← z]; exact List.mem_cons_self)
    show valV ((e.1.map Sum.inl, V.int ((e.2 : Nat) : Int)) :: kvT r) (h.map Sum.inl) = _
    rw [valV_neg (fun q => h1 (inl_inj q))]
    exact valT_none fun z => hm (List.mem_cons_of_mem _ z)
/-! ### lists of heights as data -/
theorem dp_hts {K : PySem.W.Frag} {H : Hp} : ∀ {rs : List Addr} {xs : List (List Int)}, LsAt hF H rs xs → DpAll K H (rs.map V.ref) (xs.map fun h => PyData.tuple (h.map PyData.int))
  | [], [], _ => .nil
  | [], _ :: _, h => by have := h.len; simp at this
  | _ :: _, [], h => by have := h.len; simp at this
  | r :: rs, x :: xs, h => .cons (.tup (SqT.of (h.at_ 0 r x rfl rfl)) (dp_ints x)) (dp_hts ⟨by have := h.len; simpa using this, fun j r2 p2 a b => h.at_ (j + 1) r2 p2 a b⟩)
theorem hts_lay : ∀ xs : List (List Int), PyData.canLayAll0 (xs.map fun h => PyData.tuple (h.map PyData.int)) = true
  | [] => by simp [PyData.canLayAll0]
  | n :: r => by simp [PyData.canLayAll0, PyData.canLay0, ints_lay n, hts_lay r]
theorem hts_depth : ∀ xs : List (List Int), PyData.depthAll (xs.map fun h => PyData.tuple (h.map PyData.int)) ≤ 2
  | [] => by simp [PyData.depthAll]
  | n :: r => by
    have h := hts_depth r
    have h1 := ints_depth n
    simp only [List.map_cons, PyData.depthAll, PyData.depth]
    omega
theorem hts_shaped (xs : List (List Int)) : SeqAt.shaped (.list (xs.map fun h => PyData.tuple (h.map PyData.int))) = true := by
  have h1 := hts_depth xs
  have h2 : PyData.depth (.list (xs.map fun h => PyData.tuple (h.map PyData.int))) ≤ 64 := by
    simp only [PyData.depth]
    omega
  show (PyData.canLay0 (.list (xs.map fun h => PyData.tuple (h.map PyData.int))) && decide (PyData.depth (.list (xs.map fun h => PyData.tuple (h.map PyData.int))) ≤ 64)) = true
  rw [Bool.and_eq_true]
  exact ⟨by simp only [PyData.canLay0]; exact hts_lay xs, decide_eq_true h2⟩
theorem hts_eqv_nil : ∀ xs : List (List Int), PyData.eqv (.list (xs.map fun h => PyData.tuple (h.map PyData.int))) (.list []) = decide (xs = [])
  | [] => by simp [PyData.eqv, PyData.eqvAll]
  | n :: r => by simp [PyData.eqv, PyData.eqvAll]
end Lv

namespace Lv
open PySem PySem.Spec PyProof.Rows L2 LamX NdefX LvL LvG LvM
section
variable {P : Program} {w : World} {K : PySem.W.Frag} {mg : Str → Option Value} {base : Heap}
/-! ### _law_from -/
theorem scFrom : FnScope ["_law_web", "_law_roof", "_law_heights_here", "_law_found", "_law_rows", "_law_more", "_law_here", "_law_deed", "_law_there_here"] ["_law_web", "_law_roof", "_law_heights_here"] (defScope sFrom) := ⟨rfl, rfl, rfl, by decide +kernel, rfl, by decide +kernel, by decide +kernel⟩
def spFrom : Sp := fun vs H Q _ => ∃ (wb a : Addr) (n roof : Nat) (E : Ed) (one : List Int), vs = [.ref wb, .int roof, .ref a] ∧ WebAt H wb n E ∧ EdIn E n ∧ 1 ≤ n ∧ n ≤ 40 ∧ (roof + 1) ^ n ≤ 500 ∧ HtAt H a one ∧ Hts n roof one ∧
  ∀ H' fd F, Same H H' → H' fd = some (.dT (kvT F)) → FinF E n roof one F → Q (.ref fd) H'
theorem get_hF {H : Hp} {h : List Int} {F : List (List Int × Nat)} {D b : Addr} (e : H D = some (.dT (kvT F))) (eb : HtAt H b h) : DGet H D (.ref b) (valV (kvT F) (h.map Sum.inl)) :=
  DGet.t e (by rw [inl_kV]; exact eb)
theorem put_hF {H : Hp} {h : List Int} {F : List (List Int × Nat)} {D b : Addr} {m : Nat} (e : H D = some (.dT (kvT F))) (eb : HtAt H b h) (hn : h ∉ F.map (·.1)) (hl : F.length < sizeLine) :
    DPut H D (.ref b) (.int ((m : Nat) : Int)) (L2.upd H D (.dT (kvT (F ++ [(h, m)])))) := by
  have q := DPut.t (v := V.int ((m : Nat) : Int)) (k := h.map Sum.inl) e (by rw [inl_kV]; exact eb) (by unfold kvT; rw [List.length_map]; exact hl)
  rw [putK_new _ (valT_none hn)] at q
  have e2 : kvT F ++ [(h.map Sum.inl, V.int ((m : Nat) : Int))] = kvT (F ++ [(h, m)]) := by
    unfold kvT
    rw [List.map_append]
    rfl
  rw [e2] at q
  exact q
theorem SameT.updD {H : Hp} {D : Addr} {o : HO} {kvs : List (List Key × V)} (h : H D = some (.dT kvs)) : SameT H (L2.upd H D o) := fun b ys e => by
  rw [upd_ne (fun z => by rw [z, h] at e; cases e)]
  exact e
theorem same_free {H H' : Hp} {D : Addr} {o : HO} (s : Same H H') (hn : H D = none) : Same H (L2.upd H' D o) := fun c x e => by
  rw [upd_ne (ne_of_none e hn)]
  exact s _ _ e
/-- what stands while the search goes on -/
structure Sch (H H' : Hp) (E : Ed) (n roof : Nat) (one : List Int) (d : Nat) (D L M : Addr) (rs ms : List Addr) (rows : List (List Int)) (F : List (List Int × Nat)) (more : List (List Int)) : Prop where
  s : Same H H'
  nD : H D = none
  nL : H L = none
  nM : H M = none
  lm : L ≠ M
  eD : H' D = some (.dT (kvT F))
  eL : H' L = some (.lst (rs.map V.ref))
  eM : H' M = some (.lst (ms.map V.ref))
  hL : LsAt hF H' rs rows
  hM : LsAt hF H' ms more
  rw_ : ∀ h, h ∈ rows ↔ (h, d) ∈ F
  B : Bfs E n roof one d F more
theorem Sch.same {H H' H2 : Hp} {E : Ed} {n roof : Nat} {one : List Int} {d : Nat} {D L M : Addr} {rs ms : List Addr} {rows : List (List Int)} {F : List (List Int × Nat)} {more : List (List Int)} (S : Sch H H' E n roof one d D L M rs ms rows F more) (s : Same H' H2) : Sch H H2 E n roof one d D L M rs ms rows F more :=
  ⟨S.s.trans s, S.nD, S.nL, S.nM, S.lm, s _ _ S.eD, s _ _ S.eL, s _ _ S.eM, S.hL.mono hF_st (SameT.of s), S.hM.mono hF_st (SameT.of s), S.rw_, S.B⟩
/-- a new one found and kept -/
theorem Sch.put {H H' : Hp} {E : Ed} {n roof : Nat} {one : List Int} {d : Nat} {D L M : Addr} {rs ms : List Addr} {rows : List (List Int)} {F : List (List Int × Nat)} {more : List (List Int)} (S : Sch H H' E n roof one d D L M rs ms rows F more)
    (hE : EdIn E n) (v1 : Hts n roof one) {x y : List Int} {q : Addr} (hx : x ∈ rows) (hy : Deed E roof x y) (hn : y ∉ F.map (·.1)) (hq : HtAt H' q y) :
    Sch H (L2.upd (L2.upd H' D (.dT (kvT (F ++ [(y, d + 1)])))) M (.lst (ms.map V.ref ++ [V.ref q]))) E n roof one d D L M rs (ms ++ [q]) rows (F ++ [(y, d + 1)]) (more ++ [y]) := by
  have hDM : D ≠ M := fun z => by
    have := S.eD
    rw [z, S.eM] at this
    cases this
  have hLD : L ≠ D := fun z => by
    have := S.eL
    rw [z, S.eD] at this
    cases this
  have t1 : SameT H' (L2.upd H' D (.dT (kvT (F ++ [(y, d + 1)])))) := SameT.updD S.eD
  have eM1 : L2.upd H' D (.dT (kvT (F ++ [(y, d + 1)]))) M = some (.lst (ms.map V.ref)) := by
    rw [upd_ne hDM.symm]
    exact S.eM
  have t2 : SameT (L2.upd H' D (.dT (kvT (F ++ [(y, d + 1)])))) (L2.upd (L2.upd H' D (.dT (kvT (F ++ [(y, d + 1)])))) M (.lst (ms.map V.ref ++ [V.ref q]))) := SameT.upd eM1
  refine ⟨same_free (same_free S.s S.nD) S.nM, S.nD, S.nL, S.nM, S.lm, ?_, ?_, ?_, (S.hL.mono hF_st t1).mono hF_st t2, ((S.hM.mono hF_st t1).mono hF_st t2).snoc (hF_st _ _ _ _ t2 (hF_st _ _ _ _ t1 hq)), fun h => ?_, S.B.put hE v1 ((S.rw_ x).mp hx) hy hn⟩
  · rw [upd_ne hDM, upd_same]
  · rw [upd_ne S.lm, upd_ne hLD]
    exact S.eL
  · rw [upd_same, List.map_append]
    rfl
  · rw [List.mem_append, S.rw_ h, List.mem_singleton]
    constructor
    · exact fun z => .inl z
    · rintro (z | z)
      · exact z
      · injection z with _ z2
        omega
theorem ok_from {f : Addr} {fd : FuncData} (G : Got K mg "_law_from" sFrom ["_law_web", "_law_roof", "_law_heights_here"] f fd) (T : Txt mg)
    (D1 : Dfn P w K mg base 3 "_law_after" ["_law_web", "_law_roof", "_law_heights_here"] spAfter) : Dfn P w K mg base 4 "_law_from" ["_law_web", "_law_roof", "_law_heights_here"] spFrom := by
  refine G.dfn (G.F.ok scFrom (fun vs H Q E h => ?_) (fun cdv A outer s H vs Q E hr h => ?_))
  · obtain ⟨wb, a, n, roof, E, one, rfl, _⟩ := h
    rfl
  · obtain ⟨wb, a, n, roof, E, one, rfl, W, hE, n1, n40, hp, ha, v1, q⟩ := h
    have hu := hu_of hr
    refine ⟨_, pss_cons (ps_par (i := 3) (j := 4) rfl scFrom.nd rfl rfl (by decide) rfl rfl (pa_cons (pe_dispT hu (pv 2) pe_int) (pa_cons (pe_lst (pa_cons (pv 2) pa_nil)) pa_nil)) (by rfl))
      (pss_cons (ps_while PassesOwn.never (pt_cmpR (op_neD hr.units) (pv 4) (pe_lst pa_nil) (nomark _))
        (pss_cons (ps_set (i := 5) scFrom.nd rfl (.inl rfl) (pe_lst pa_nil))
        (pss_cons (ps_for PassesOwn.never rfl (pi_list (pv 4)) (pg_name (i := 6) scFrom.nd rfl (.inl rfl))
          (pss_one (ps_for PassesOwn.never rfl (pi_list (pe_cd D1 hr (by decide) (by rfl) (pa_cons (pv 0) (pa_cons (pv 1) (pa_cons (pv 6) pa_nil))))) (pg_tup rfl (pgs_cons (pg_name (i := 7) scFrom.nd rfl (.inl rfl)) (pgs_cons (pg_name (i := 8) scFrom.nd rfl (.inl rfl)) pgs_nil)))
            (pss_one (ps_if (pt_cmp (pc_dnotin hu (pv 8) (pv 3)))
              (pss_cons (ps_dput hu (pv 3) (pv 8) (pe_op op_add (pe_dget hu (pv 3) (pv 6) (fun _ _ => rfl)) pe_int) rfl)
                (pss_one (ps_expr (pe_bm PySem.F.plainAttrs_list PySem.F.slot_list_append PySem.F.type_list_append mt_append (pv 5) (pa_cons (pv 8) pa_nil)))))
              pss_nil)))))
        (pss_one (ps_set (i := 4) scFrom.nd rfl (.inl rfl) (pv 5))))))
      (pss_one (ps_ret (pv 3)))), ?_⟩
    refine fun D nD => ⟨_, rfl, upd_same, a, one.map Sum.inl, rfl, ?_, ?_⟩
    · rw [inl_kV]
      exact same_upd (o := .dT []) nD _ _ ha
    have e0 : (L2.upd (L2.upd H D (.dT [])) D (.dT [(one.map Sum.inl, V.int 0)])) D = some (.dT (kvT [(one, 0)])) := upd_same
    have s0 : Same H (L2.upd (L2.upd H D (.dT [])) D (.dT [(one.map Sum.inl, V.int 0)])) := same_free (same_upd nD) nD
    generalize L2.upd (L2.upd H D (.dT [])) D (.dT [(one.map Sum.inl, V.int 0)]) = H0 at e0 s0
    refine ⟨_, rfl, by show 1 ≤ sizeLine; decide, fun L0 nL0 => ⟨_, _, rfl, ?_⟩⟩
    have sL := same_upd (o := .lst [V.ref a]) nL0
    refine ⟨fun m σ H' => ∃ (L : Addr) (d : Nat) (F : List (List Int × Nat)) (rows : List (List Int)) (rs : List Addr) (y5 y6 y7 y8 : Option V), σ = [some (.ref wb), some (.int roof), some (.ref a), some (.ref D), some (.ref L), y5, y6, y7, y8] ∧ Same H H' ∧ H L = none ∧ H' D = some (.dT (kvT F)) ∧ H' L = some (.lst (rs.map V.ref)) ∧ LsAt hF H' rs rows ∧ (∀ h, h ∈ rows ↔ (h, d) ∈ F) ∧ rows.length ≤ F.length ∧ Bfs E n roof one d F [] ∧ m = n * roof + 1 - d, ⟨n * roof + 1 - 0, L0, 0, [(one, 0)], [one], [a], none, none, none, none, rfl, s0.trans sL, s0.free nL0, sL _ _ e0, upd_same, LsAt.one ((s0.trans sL) _ _ ha), fun h => ?_, Nat.le_refl _, Bfs.first hE v1, rfl⟩, ?_⟩
    · rw [List.mem_singleton, List.mem_singleton]
      exact ⟨fun z => by rw [z], fun z => by injection z⟩
    · rintro m σ H1 ⟨L, d, F, rows, rs, y5, y6, y7, y8, rfl, s1, nL, eD, eL, hL, hr1, hrl, B, rfl⟩
      have hFl := B.len
      refine ⟨_, rfl, Nat.zero_le _, fun l nl => ?_⟩
      have s2 := same_upd (o := .lst []) nl
      refine ⟨_, _, .lst (SqL.of (s2 _ _ eL)) (dp_hts (hL.mono hF_st (SameT.of s2))), .lst (SqL.of upd_same) .nil, hts_shaped rows, by decide +kernel, _, rfl, ?_⟩
      rw [hts_eqv_nil]
      by_cases hne : rows = []
      · rw [decide_eq_true hne]
        refine iteF ?_
        subst hne
        refine ⟨_, rfl, q _ D F (s1.trans s2) (s2 _ _ eD) (B.fin hE v1 fun h z => ?_)⟩
        have := (hr1 h).mpr z
        cases this
      · rw [decide_eq_false hne]
        obtain ⟨h0, hh0⟩ := List.exists_mem_of_ne_nil rows hne
        have hdb : d ≤ n * roof := B.bound v1 ((hr1 h0).mp hh0)
        refine iteT ?_
        refine ⟨fun σ' H' => ∃ (L : Addr) (F : List (List Int × Nat)) (rows : List (List Int)) (rs : List Addr) (y5 y6 y7 y8 : Option V), σ' = [some (.ref wb), some (.int roof), some (.ref a), some (.ref D), some (.ref L), y5, y6, y7, y8] ∧ Same H H' ∧ H L = none ∧ H' D = some (.dT (kvT F)) ∧ H' L = some (.lst (rs.map V.ref)) ∧ LsAt hF H' rs rows ∧ (∀ h, h ∈ rows ↔ (h, d + 1) ∈ F) ∧ rows.length ≤ F.length ∧ Bfs E n roof one (d + 1) F [], ?_, ?_⟩
        · rintro σ' H' ⟨L, F, rows, rs, y5, y6, y7, y8, z1, z2, z3, z4, z5, z6, z7, z8, z9⟩
          exact ⟨n * roof + 1 - (d + 1), by omega, L, d + 1, F, rows, rs, y5, y6, y7, y8, z1, z2, z3, z4, z5, z6, z7, z8, z9, rfl⟩
        · have s12 := s1.trans s2
          have eL2 := s2 _ _ eL
          have eD2 := s2 _ _ eD
          have hL2 := hL.mono hF_st (SameT.of s2)
          generalize L2.upd H1 l (.lst []) = H2 at s12 eL2 eD2 hL2
          refine ⟨Nat.zero_le _, fun M nM => ?_⟩
          have sM := same_upd (o := .lst []) nM
          have S0 : Sch H (L2.upd H2 M (.lst [])) E n roof one d D L M rs [] rows F [] := ⟨s12.trans sM, nD, nL, s12.free nM, ne_of_none eL2 nM, sM _ _ eD2, sM _ _ eL2, upd_same, hL2.mono hF_st (SameT.of sM), LsAt.nil, hr1, B⟩
          generalize L2.upd H2 M (.lst []) = H3 at S0
          have hlr := hL.len
          refine ⟨_, rfl, L, rfl, ⟨_, SqL.of S0.eL⟩, for_it (walk_list (K := K) (a := L) (xs := rs.map V.ref)) (fun i σ H' => ∃ (ms : List Addr) (F : List (List Int × Nat)) (more : List (List Int)) (y6 y7 y8 : Option V), σ = [some (.ref wb), some (.int roof), some (.ref a), some (.ref D), some (.ref L), some (.ref M), y6, y7, y8] ∧ Sch H H' E n roof one d D L M rs ms rows F more ∧ ∀ x ∈ rows.take i, ∀ y ∈ afterL E n roof x, y ∈ F.map (·.1))
            ⟨[], F, [], y6, y7, y8, rfl, S0, by simp⟩ (fun j σ H' _ ⟨_, _, _, _, _, _, _, S, _⟩ => SqL.of S.eL) ?_ ?_⟩
          · rintro i x σ H4 H5 hi ⟨ms, F, more, y6, y7, y8, rfl, S, hd⟩ ⟨rfl, hx⟩
            obtain ⟨r, x, rfl, hxi, hrx⟩ := S.hL.get hx
            have hxm : x ∈ rows := List.mem_of_getElem? hxi
            have vx : Hts n roof x := (S.B.ok _ ((S.rw_ x).mp hxm)).1
            have hrx : HtAt H5 r x := hrx
            refine ⟨_, rfl, _, rfl, _, rfl, wb, r, n, roof, E, x, rfl, W.same S.s, hE, n40, hrx, vx.len, fun H6 p as s6 np hp has => ⟨p, rfl, ⟨_, SqL.of hp⟩, ?_⟩⟩
            have S6 := S.same s6
            have hasl := has.len
            have pD : p ≠ D := (ne_of_none S.eD np).symm
            have pM : p ≠ M := (ne_of_none S.eM np).symm
            have hrx6 := s6 _ _ hrx
            refine for_it (walk_list (K := K) (a := p) (xs := as.map V.ref)) (fun j σ H' => ∃ (ms : List Addr) (F : List (List Int × Nat)) (more : List (List Int)) (y7 y8 : Option V), σ = [some (.ref wb), some (.int roof), some (.ref a), some (.ref D), some (.ref L), some (.ref M), some (.ref r), y7, y8] ∧ Sch H H' E n roof one d D L M rs ms rows F more ∧ (∀ x ∈ rows.take i, ∀ y ∈ afterL E n roof x, y ∈ F.map (·.1)) ∧ (∀ y ∈ (afterL E n roof x).take j, y ∈ F.map (·.1)) ∧ H' p = some (.lst (as.map V.ref)) ∧ SameT H6 H')
              ⟨ms, F, more, y7, y8, rfl, S6, hd, by simp, hp, fun _ _ e => e⟩ (fun j σ H' _ ⟨_, _, _, _, _, _, _, _, _, e, _⟩ => SqL.of e) ?_ ?_
            · rintro j y σ H7 H8 hj ⟨ms, F, more, y7, y8, rfl, S, hd, hd2, hp8, sT⟩ ⟨rfl, hy⟩
              obtain ⟨t, y, rfl, hyj, dd, qh, ht, hq⟩ := (has.mono aF_st sT).get hy
              have hdy : Deed E roof x y := (mem_after hE vx.len).mp (List.mem_of_getElem? hyj)
              have hq : HtAt H8 qh y := hq
              have hrx8 : HtAt H8 r x := sT _ _ hrx6
              have etk : (afterL E n roof x).take (j + 1) = (afterL E n roof x).take j ++ [y] := by rw [List.take_add_one, hyj]; rfl
              have hFl := S.B.len
              have hml := S.B.ml
              have hMl := S.hM.len
              refine ⟨_, _, rfl, SqT.of ht, rfl, _, _, rfl, _, [], rfl, rfl, ?_⟩
              refine ⟨_, rfl, _, rfl, D, _, rfl, get_hF S.eD hq, _, rfl, ?_⟩
              by_cases hm : y ∈ F.map (·.1)
              · obtain ⟨e, he⟩ := mem_keys hm
                rw [valT_some S.B.nd he]
                refine iteF ?_
                refine ⟨ms, F, more, _, _, rfl, S, hd, fun z hz => ?_, hp8, sT⟩
                rw [etk] at hz
                rcases List.mem_append.mp hz with h | h
                · exact hd2 z h
                · rw [List.mem_singleton.mp h]
                  exact hm
              · rw [valT_none hm]
                refine iteT ?_
                have hxF := (S.rw_ x).mp hxm
                refine ⟨_, rfl, _, rfl, D, _, rfl, (by have g := get_hF S.eD hrx8; rw [valT_some S.B.nd hxF] at g; exact g), _, _, rfl, rfl, ?_⟩
                refine ⟨_, rfl, _, rfl, D, _, rfl, put_hF (m := d + 1) S.eD hq hm (small1000 (by omega)), ?_⟩
                have S' := S.put hE v1 hxm hdy hm hq
                have hDM : D ≠ M := fun z => by
                  have := S.eD
                  rw [z, S.eM] at this
                  cases this
                have eM1 : L2.upd H8 D (.dT (kvT (F ++ [(y, d + 1)]))) M = some (.lst (ms.map V.ref)) := by
                  rw [upd_ne hDM.symm]
                  exact S.eM
                refine ⟨_, rfl, .inl ⟨rfl, _, SqL.of eM1⟩, _, rfl, M, _, _, rfl, rfl, eM1, ?_, ?_⟩
                · rw [List.length_map]
                  exact small1000 (by omega)
                · refine ⟨_, _, _, _, _, rfl, S', fun z hz w hw => ?_, fun z hz => ?_, ?_, ?_⟩
                  · rw [List.map_append]
                    exact List.mem_append_left _ (hd z hz w hw)
                  · rw [List.map_append]
                    rw [etk] at hz
                    rcases List.mem_append.mp hz with h | h
                    · exact List.mem_append_left _ (hd2 z h)
                    · exact List.mem_append_right _ h
                  · rw [upd_ne pM, upd_ne pD]
                    exact hp8
                  · intro b xs e
                    exact SameT.upd eM1 _ _ (SameT.updD S.eD _ _ (sT _ _ e))
            · rintro σ H7 ⟨ms, F, more, y7, y8, rfl, S, hd, hd2, hp8, sT⟩
              rw [List.length_map, hasl, List.take_length] at hd2
              refine ⟨ms, F, more, _, _, _, rfl, S, fun z hz => ?_⟩
              rw [List.take_add_one, hxi] at hz
              rcases List.mem_append.mp hz with h | h
              · exact hd z h
              · rw [List.mem_singleton.mp h]
                exact hd2
          · rintro σ H4 ⟨ms, F, more, y6, y7, y8, rfl, S, hd⟩
            rw [List.length_map, hlr, List.take_length] at hd
            exact ⟨_, rfl, M, F, more, ms, _, _, _, _, rfl, S.s, S.nM, S.eD, S.eM, S.hM, S.B.mo, S.B.ml, S.B.next hE v1 S.rw_ hd⟩
end
end Lv

namespace Lv
open PySem PySem.Spec PyProof.Rows L2 LamX NdefX LvL LvG LvM
/-! ### sums over lists -/
def sumK {α : Type} (f : α → Int) : List α → Int
  | [] => 0
  | a :: l => f a + sumK f l
def ind (b : Bool) : Int := if b = true then 1 else 0
section
variable {α β : Type}
theorem sum_map (f : α → Int) : ∀ l : List α, (l.map f).sum = sumK f l
  | [] => rfl
  | a :: l => by rw [List.map_cons, List.sum_cons, sum_map f l]; rfl
theorem sumK_congr {f g : α → Int} : ∀ {l : List α}, (∀ a ∈ l, f a = g a) → sumK f l = sumK g l
  | [], _ => rfl
  | a :: l, h => by
    show f a + sumK f l = g a + sumK g l
    rw [h a List.mem_cons_self, sumK_congr fun b hb => h b (List.mem_cons_of_mem _ hb)]
theorem sumK_zero : ∀ l : List α, sumK (fun _ => 0) l = 0
  | [] => rfl
  | a :: l => by
    show 0 + sumK (fun _ => 0) l = 0
    rw [sumK_zero l]
    rfl
theorem sumK_add (f g : α → Int) : ∀ l : List α, sumK (fun a => f a + g a) l = sumK f l + sumK g l
  | [] => rfl
  | a :: l => by
    show f a + g a + sumK _ l = (f a + sumK f l) + (g a + sumK g l)
    rw [sumK_add f g l]
    omega
theorem sumK_swap (h : α → β → Int) (L : List β) : ∀ K : List α, sumK (fun a => sumK (fun b => h a b) L) K = sumK (fun b => sumK (fun a => h a b) K) L
  | [] => (sumK_zero L).symm
  | a :: K => by
    show sumK (fun b => h a b) L + sumK _ K = sumK (fun b => h a b + sumK (fun a => h a b) K) L
    rw [sumK_swap h L K, sumK_add]
theorem sumK_map (f : β → Int) (g : α → β) : ∀ l : List α, sumK f (l.map g) = sumK (fun a => f (g a)) l
  | [] => rfl
  | a :: l => by
    show f (g a) + sumK f (l.map g) = f (g a) + _
    rw [sumK_map f g l]
theorem sumK_append (f : α → Int) : ∀ l m : List α, sumK f (l ++ m) = sumK f l + sumK f m
  | [], m => by show sumK f m = 0 + sumK f m; omega
  | a :: l, m => by
    show f a + sumK f (l ++ m) = f a + sumK f l + sumK f m
    rw [sumK_append f l m]
    omega
theorem sumK_flatMap (f : β → Int) (g : α → List β) : ∀ l : List α, sumK f (l.flatMap g) = sumK (fun a => sumK f (g a)) l
  | [] => rfl
  | a :: l => by
    rw [List.flatMap_cons, sumK_append, sumK_flatMap f g l]
    rfl
theorem sumK_filter (f : α → Int) (p : α → Bool) : ∀ l : List α, sumK f (l.filter p) = sumK (fun a => if p a = true then f a else 0) l
  | [] => rfl
  | a :: l => by
    show _ = (if p a = true then f a else 0) + _
    by_cases h : p a = true
    · rw [List.filter_cons_of_pos h, if_pos h, ← sumK_filter f p l]
      rfl
    · rw [List.filter_cons_of_neg h, if_neg h, ← sumK_filter f p l]
      omega
theorem sumK_ind (q : α → Bool) : ∀ l : List α, sumK (fun o => ind (q o)) l = ((l.filter q).length : Int)
  | [] => rfl
  | a :: l => by
    show ind (q a) + sumK _ l = _
    rw [sumK_ind q l]
    by_cases h : q a = true
    · rw [List.filter_cons_of_pos h, List.length_cons, show ind (q a) = 1 from if_pos h]
      omega
    · rw [List.filter_cons_of_neg h, show ind (q a) = 0 from if_neg h]
      omega
end
theorem sumK_hot (x : Nat → Int) (k0 : Nat) : ∀ R, sumK (fun k => if k = k0 then x k else 0) (List.range R) = if k0 < R then x k0 else 0
  | 0 => rfl
  | R + 1 => by
    rw [List.range_succ, sumK_append, sumK_hot x k0 R]
    show (if k0 < R then x k0 else 0) + ((if R = k0 then x R else 0) + 0) = _
    by_cases h1 : R = k0
    · subst h1
      rw [if_neg (by omega), if_pos rfl, if_pos (by omega)]
      omega
    · rw [if_neg h1]
      by_cases h2 : k0 < R
      · rw [if_pos h2, if_pos (by omega)]
        omega
      · rw [if_neg h2, if_neg (by omega)]
        omega
/-! ### chains -/
def lastI (o : List Int) : Int := LvM.at_ o (o.length - 1)
def okB (g : Nat → Int → Int → Bool) (o : List Int) : Bool := (List.range (o.length - 1)).all fun k => g (k + 1) (LvM.at_ o k) (LvM.at_ o (k + 1))
theorem at_snoc {o : List Int} {h : Int} {k : Nat} (hk : k < o.length) : LvM.at_ (o ++ [h]) k = LvM.at_ o k := by
  unfold LvM.at_
  rw [List.getD_eq_getElem?_getD, List.getD_eq_getElem?_getD, List.getElem?_append_left hk]
theorem at_snoc_last (o : List Int) (h : Int) : LvM.at_ (o ++ [h]) o.length = h := by
  unfold LvM.at_
  rw [List.getD_eq_getElem?_getD, List.getElem?_append_right (Nat.le_refl _), Nat.sub_self]
  rfl
theorem last_snoc (o : List Int) (h : Int) : lastI (o ++ [h]) = h := by
  unfold lastI
  rw [List.length_append, List.length_singleton, Nat.add_sub_cancel]
  exact at_snoc_last o h
theorem all_range_congr {n : Nat} {f g : Nat → Bool} (h : ∀ k, k < n → f k = g k) : (List.range n).all f = (List.range n).all g := by
  rw [Bool.eq_iff_iff, List.all_eq_true, List.all_eq_true]
  exact ⟨fun q k hk => by rw [← h k (List.mem_range.mp hk)]; exact q k hk, fun q k hk => by rw [h k (List.mem_range.mp hk)]; exact q k hk⟩
theorem okB_snoc {g : Nat → Int → Int → Bool} {o : List Int} {h : Int} {i : Nat} (hl : o.length = i + 1) : okB g (o ++ [h]) = (okB g o && g (i + 1) (lastI o) h) := by
  unfold okB
  rw [List.length_append, List.length_singleton, hl, Nat.add_sub_cancel, Nat.add_sub_cancel, List.range_succ, List.all_append]
  have e1 : ((List.range i).all fun k => g (k + 1) (LvM.at_ (o ++ [h]) k) (LvM.at_ (o ++ [h]) (k + 1))) = ((List.range i).all fun k => g (k + 1) (LvM.at_ o k) (LvM.at_ o (k + 1))) :=
    all_range_congr fun k hk => by rw [at_snoc (by omega), at_snoc (by omega)]
  rw [e1]
  congr 1
  rw [List.all_cons, List.all_nil, Bool.and_true]
  have e2 : LvM.at_ (o ++ [h]) (i + 1) = h := by rw [← hl]; exact at_snoc_last o h
  rw [e2, at_snoc (by omega)]
  unfold lastI
  rw [hl, Nat.add_sub_cancel]
/-! ### rows that stand for chains -/
def Rep (rows : List (Int × Int)) (q : List Int → Bool) (A : List (List Int)) : Prop :=
  ∀ p : Int → Bool, sumK (fun r => if p r.1 = true then r.2 else 0) rows = sumK (fun o => ind (q o && p (lastI o))) A
theorem sumK_grow (f : List Int → Int) (roof : Nat) (o : List Int) : sumK f (growH roof o) = sumK (fun (k : Nat) => f (o ++ [(k : Int)])) (List.range (roof + 1)) := by
  unfold growH
  rw [sumK_map]
theorem sumK_allH1 (f : List Int → Int) (roof : Nat) : sumK f (allH roof 1) = sumK (fun (k : Nat) => f [(k : Int)]) (List.range (roof + 1)) := by
  show sumK f ([[]].flatMap (growH roof)) = _
  rw [List.flatMap_cons, List.flatMap_nil, List.append_nil, sumK_grow]
  rfl
theorem at_one (k : Int) : LvM.at_ [k] 0 = k := rfl
theorem Rep.start_row (g : Nat → Int → Int → Bool) (roof : Nat) : Rep (ones (roof + 1)) (fun o => true && okB g o) (allH roof 1) := by
  intro p
  rw [sumK_allH1]
  unfold ones
  rw [sumK_map]
  refine sumK_congr fun k _ => ?_
  show (if p (k : Int) = true then (1 : Int) else 0) = ind (true && okB g [(k : Int)] && p (k : Int))
  rw [show okB g [(k : Int)] = true from rfl]
  rfl
theorem Rep.start_ring (g : Nat → Int → Int → Bool) (roof : Nat) {first : Nat} (hf : first < roof + 1) : Rep [((first : Int), 1)] (fun o => decide (LvM.at_ o 0 = (first : Int)) && okB g o) (allH roof 1) := by
  intro p
  rw [sumK_allH1]
  have e : sumK (fun (k : Nat) => ind (decide (LvM.at_ [(k : Int)] 0 = (first : Int)) && okB g [(k : Int)] && p (lastI [(k : Int)]))) (List.range (roof + 1)) = sumK (fun (k : Nat) => if k = first then ind (p (k : Int)) else 0) (List.range (roof + 1)) := by
    refine sumK_congr fun k _ => ?_
    rw [at_one, show okB g [(k : Int)] = true from rfl, show lastI [(k : Int)] = (k : Int) from rfl, Bool.and_true]
    by_cases h : k = first
    · rw [if_pos h, decide_eq_true (by omega), Bool.true_and]
    · rw [if_neg h, decide_eq_false (by omega), Bool.false_and]
      rfl
  rw [e, sumK_hot (fun k => ind (p (k : Int))) first (roof + 1), if_pos hf]
  show (if p (first : Int) = true then (1 : Int) else 0) + 0 = ind (p first)
  unfold ind
  omega
theorem Rep.grow {rows : List (Int × Int)} {f0 : Int → Bool} {g : Nat → Int → Int → Bool} {roof i : Nat} (h : Rep rows (fun o => f0 (LvM.at_ o 0) && okB g o) (allH roof (i + 1))) :
    Rep (grownL rows (roof + 1) (g (i + 1))) (fun o => f0 (LvM.at_ o 0) && okB g o) (allH roof (i + 2)) := by
  intro p
  show _ = sumK _ ((allH roof (i + 1)).flatMap (growH roof))
  rw [sumK_flatMap]
  unfold grownL
  rw [sumK_map]
  have e1 : sumK (fun (k : Nat) => if p (((k : Int), ((rows.filter fun r => g (i + 1) r.1 k).map (·.2)).sum) : Int × Int).1 = true then (((k : Int), ((rows.filter fun r => g (i + 1) r.1 k).map (·.2)).sum) : Int × Int).2 else 0) (List.range (roof + 1))
      = sumK (fun (k : Nat) => sumK (fun o => if p (k : Int) = true then ind ((f0 (LvM.at_ o 0) && okB g o) && g (i + 1) (lastI o) k) else 0) (allH roof (i + 1))) (List.range (roof + 1)) := by
    refine sumK_congr fun k _ => ?_
    show (if p (k : Int) = true then ((rows.filter fun r => g (i + 1) r.1 k).map (·.2)).sum else 0) = _
    by_cases hp : p (k : Int) = true
    · rw [if_pos hp, sum_map, sumK_filter]
      have := h fun a => g (i + 1) a k
      rw [show (sumK (fun (a : Int × Int) => if g (i + 1) a.1 k = true then a.2 else 0) rows) = sumK (fun o => ind ((f0 (LvM.at_ o 0) && okB g o) && g (i + 1) (lastI o) k)) (allH roof (i + 1)) from this]
      exact sumK_congr fun o _ => (if_pos hp).symm
    · rw [if_neg hp]
      exact ((sumK_congr fun o _ => if_neg hp).trans (sumK_zero _)).symm
  rw [e1, sumK_swap]
  refine sumK_congr fun o ho => ?_
  rw [sumK_grow]
  refine sumK_congr fun k _ => ?_
  have hl := allH_length ho
  show _ = ind ((f0 (LvM.at_ (o ++ [(k : Int)]) 0) && okB g (o ++ [(k : Int)])) && p (lastI (o ++ [(k : Int)])))
  rw [okB_snoc hl, last_snoc, at_snoc (by omega)]
  by_cases hp : p (k : Int) = true
  · rw [if_pos hp, hp, Bool.and_true, Bool.and_assoc]
  · rw [if_neg hp, (Bool.not_eq_true _).mp hp, Bool.and_false]
    rfl
theorem Rep.rowsFrom {r0 : List (Int × Int)} {f0 : Int → Bool} {g : Nat → Int → Int → Bool} {roof : Nat} (h : Rep r0 (fun o => f0 (LvM.at_ o 0) && okB g o) (allH roof 1)) : ∀ i, Rep (Lv.rowsFrom r0 (roof + 1) g i) (fun o => f0 (LvM.at_ o 0) && okB g o) (allH roof (i + 1))
  | 0 => h
  | i + 1 => (Rep.rowsFrom h i).grow
/-- THE ROW: its sum is the number of chains -/
theorem row_count (g : Nat → Int → Int → Bool) (roof n : Nat) (hn : 1 ≤ n) : sumV (rowsFrom (ones (roof + 1)) (roof + 1) g (n - 1)) = (((allH roof n).filter (okB g)).length : Int) := by
  have h := Rep.rowsFrom (f0 := fun _ => true) (Rep.start_row g roof) (n - 1) fun _ => true
  rw [show n - 1 + 1 = n by omega] at h
  unfold sumV
  rw [sum_map, ← sumK_ind]
  refine Eq.trans ?_ (h.trans ?_)
  · exact sumK_congr fun r _ => (if_pos rfl).symm
  · exact sumK_congr fun o _ => by
      show ind ((true && okB g o) && true) = _
      rw [Bool.and_true, Bool.true_and]
/-- THE RING: its sum is the number of closed chains -/
theorem ring_count (g : Nat → Int → Int → Bool) (c : Int → Int → Bool) (roof n : Nat) (hn : 1 ≤ n) : ringSum (roof + 1) (n - 1) g c = (((allH roof n).filter fun o => okB g o && c (LvM.at_ o 0) (LvM.at_ o (n - 1))).length : Int) := by
  unfold ringSum
  rw [sum_map, ← sumK_ind]
  have e1 : sumK (fun (k : Nat) => ringPart (roof + 1) (n - 1) g c (k : Int)) (List.range (roof + 1)) = sumK (fun (k : Nat) => sumK (fun o => ind ((decide (LvM.at_ o 0 = (k : Int)) && okB g o) && c k (lastI o))) (allH roof n)) (List.range (roof + 1)) := by
    refine sumK_congr fun k hk => ?_
    have h := Rep.rowsFrom (f0 := fun x => decide (x = (k : Int))) (Rep.start_ring g roof (List.mem_range.mp hk)) (n - 1) fun x => c k x
    rw [show n - 1 + 1 = n by omega] at h
    unfold ringPart
    rw [sum_map, sumK_filter]
    exact h
  rw [e1, sumK_swap]
  refine sumK_congr fun o ho => ?_
  obtain ⟨hl, hb⟩ := mem_allH.mp ho
  obtain ⟨x, rest, rfl⟩ : ∃ x rest, o = x :: rest := by
    cases o with
    | nil => simp at hl; omega
    | cons x rest => exact ⟨x, rest, rfl⟩
  have hx := hb x List.mem_cons_self
  have ex : LvM.at_ (x :: rest) 0 = x := rfl
  rw [ex]
  obtain ⟨k0, rfl⟩ : ∃ k0 : Nat, x = (k0 : Int) := ⟨x.toNat, by omega⟩
  have e2 : lastI ((k0 : Int) :: rest) = LvM.at_ ((k0 : Int) :: rest) (n - 1) := by
    unfold lastI
    rw [hl]
  rw [e2]
  have e3 : sumK (fun (k : Nat) => ind ((decide ((k0 : Int) = (k : Int)) && okB g ((k0 : Int) :: rest)) && c k (LvM.at_ ((k0 : Int) :: rest) (n - 1)))) (List.range (roof + 1)) = sumK (fun (k : Nat) => if k = k0 then ind (okB g ((k0 : Int) :: rest) && c k (LvM.at_ ((k0 : Int) :: rest) (n - 1))) else 0) (List.range (roof + 1)) := by
    refine sumK_congr fun k _ => ?_
    by_cases h : k = k0
    · rw [if_pos h, decide_eq_true (by omega), Bool.true_and]
    · rw [if_neg h, decide_eq_false (by omega), Bool.false_and, Bool.false_and]
      rfl
  rw [e3, sumK_hot (fun (k : Nat) => ind (okB g ((k0 : Int) :: rest) && c k (LvM.at_ ((k0 : Int) :: rest) (n - 1)))) k0 (roof + 1), if_pos (by omega)]
/-! ### what the counts count -/
theorem comes_row {n : Nat} (hs o : List Int) (hl : o.length = n) : okB (letsAt hs) o = comesB (edgesL n false) hs o := by
  unfold okB comesB edgesL
  rw [List.all_append, hl, List.all_map]
  show _ = (_ && true)
  rw [Bool.and_true]
  rfl
theorem comes_ring {n : Nat} (hs o : List Int) (hl : o.length = n) : (okB (letsAt hs) o && closeB hs n (LvM.at_ o 0) (LvM.at_ o (n - 1))) = comesB (edgesL n true) hs o := by
  unfold okB comesB edgesL
  rw [List.all_append, hl, List.all_map, if_pos rfl, List.all_cons, List.all_nil, Bool.and_true]
  rfl
theorem soft_iff (a b : Int) : softB a b = (!decide (a + 1 < b) && !decide (b + 1 < a)) := by
  unfold softB
  rw [Bool.eq_iff_iff, decide_eq_true_eq, Bool.and_eq_true, Bool.not_eq_true', Bool.not_eq_true', decide_eq_false_iff_not, decide_eq_false_iff_not]
  constructor
  · intro h
    split at h <;> omega
  · intro h
    split <;> omega
theorem soft_row {n : Nat} (o : List Int) (hl : o.length = n) : okB (fun _ => softB) o = softE (edgesL n false) o := by
  unfold okB softE edgesL
  rw [List.all_append, hl, List.all_map]
  show _ = (_ && true)
  rw [Bool.and_true]
  exact all_range_congr fun k _ => soft_iff _ _
theorem soft_ring {n : Nat} (o : List Int) (hl : o.length = n) : (okB (fun _ => softB) o && softB (LvM.at_ o 0) (LvM.at_ o (n - 1))) = softE (edgesL n true) o := by
  unfold okB softE edgesL
  rw [List.all_append, hl, List.all_map, if_pos rfl, List.all_cons, List.all_nil, Bool.and_true, soft_iff (LvM.at_ o 0)]
  congr 1
  exact all_range_congr fun k _ => soft_iff _ _
theorem all_perm {α : Type} {l m : List α} (h : l.Perm m) (f : α → Bool) : l.all f = m.all f := by
  rw [Bool.eq_iff_iff, List.all_eq_true, List.all_eq_true]
  exact ⟨fun q x hx => q x (h.mem_iff.mpr hx), fun q x hx => q x (h.mem_iff.mp hx)⟩
theorem comes_perm {E E' : Ed} (h : E.Perm E') (hs o : List Int) : comesB E hs o = comesB E' hs o := all_perm h _
theorem soft_perm {E E' : Ed} (h : E.Perm E') (o : List Int) : softE E o = softE E' o := all_perm h _
theorem edIn_perm {E E' : Ed} {n : Nat} (h : E.Perm E') (hE : EdIn E' n) : EdIn E n := fun e he => hE e (h.mem_iff.mp he)
theorem filter_congr_mem {α : Type} {p q : α → Bool} : ∀ {l : List α}, (∀ a ∈ l, p a = q a) → l.filter p = l.filter q
  | [], _ => rfl
  | a :: l, h => by
    have h1 := h a List.mem_cons_self
    have h2 := filter_congr_mem (l := l) fun b hb => h b (List.mem_cons_of_mem _ hb)
    rw [List.filter_cons, List.filter_cons, h1, h2]
def comeN (ring : Bool) (n roof : Nat) (hs : List Int) : Int := if ring = true then ringCome n roof hs else rowCome n roof hs
def gentleN (ring : Bool) (n roof : Nat) : Int := if ring = true then ringGentle n roof else rowGentle n roof
theorem comeN_eq (ring : Bool) {n roof : Nat} (hn : 1 ≤ n) (hs : List Int) : comeN ring n roof hs = (((allH roof n).filter (comesB (edgesL n ring) hs)).length : Int) := by
  cases ring with
  | true =>
    show ringSum (roof + 1) (n - 1) (letsAt hs) (closeB hs n) = _
    rw [ring_count _ _ _ _ hn, filter_congr_mem fun o ho => comes_ring hs o (allH_length ho)]
  | false =>
    show sumV (rowsFrom (ones (roof + 1)) (roof + 1) (letsAt hs) (n - 1)) = _
    rw [row_count _ _ _ hn, filter_congr_mem fun o ho => comes_row hs o (allH_length ho)]
theorem gentleN_eq (ring : Bool) {n roof : Nat} (hn : 1 ≤ n) : gentleN ring n roof = (((allH roof n).filter (softE (edgesL n ring))).length : Int) := by
  cases ring with
  | true =>
    show ringSum (roof + 1) (n - 1) (fun _ => softB) softB = _
    rw [ring_count _ _ _ _ hn, filter_congr_mem fun o ho => soft_ring o (allH_length ho)]
  | false =>
    show sumV (rowsFrom (ones (roof + 1)) (roof + 1) (fun _ => softB) (n - 1)) = _
    rw [row_count _ _ _ hn, filter_congr_mem fun o ho => soft_row o (allH_length ho)]
theorem allH_nodup (roof : Nat) : ∀ n, (allH roof n).Nodup
  | 0 => by simp [allH]
  | n + 1 => by
    show List.Pairwise _ ((allH roof n).flatMap (growH roof))
    rw [List.pairwise_flatMap]
    refine ⟨fun o _ => ?_, (allH_nodup roof n).imp fun {a b} hab x hx y hy z => ?_⟩
    · unfold growH
      rw [List.pairwise_map]
      exact List.Pairwise.imp (fun {a b} hab z => hab (by
        have := List.append_cancel_left z
        injection this with h1 _
        exact Int.ofNat.inj h1)) (List.nodup_range (n := roof + 1))
    · obtain ⟨j, _, rfl⟩ := List.mem_map.mp hx
      obtain ⟨k, _, rfl⟩ := List.mem_map.mp hy
      exact hab ((List.append_inj' z rfl).1)
/-- all that come, counted -/
theorem fin_len {E : Ed} {n roof : Nat} {one : List Int} {F : List (List Int × Nat)} {ring : Bool} (hp : E.Perm (edgesL n ring)) (hF : FinF E n roof one F) : F.length = ((allH roof n).filter (comesB (edgesL n ring) one)).length := by
  have h1 := nodup_len hF.nd (m := (allH roof n).filter (comesB (edgesL n ring) one)) fun x hx => by
    obtain ⟨e, he⟩ := mem_keys hx
    obtain ⟨v, c, _⟩ := hF.ok _ he
    exact List.mem_filter.mpr ⟨mem_allH'.mpr v, by rw [← comes_perm hp]; exact (comes_iff E one x).mpr c⟩
  have h2 := nodup_len (l := (allH roof n).filter (comesB (edgesL n ring) one)) (m := F.map (·.1)) ((allH_nodup roof n).filter _) fun x hx => by
    obtain ⟨a, b⟩ := List.mem_filter.mp hx
    refine hF.all x (mem_allH'.mp a) ((comes_iff E one x).mp ?_)
    rw [comes_perm hp]
    exact b
  rw [List.length_map] at h1 h2
  omega
theorem come_eq {E : Ed} {n roof : Nat} {one : List Int} {F : List (List Int × Nat)} {ring : Bool} (hn : 1 ≤ n) (hp : E.Perm (edgesL n ring)) (hF : FinF E n roof one F) : comeN ring n roof one = (F.length : Int) := by
  rw [comeN_eq ring hn, fin_len hp hF]
theorem gentle_eq {E : Ed} {n roof : Nat} {ring : Bool} (hn : 1 ≤ n) (hp : E.Perm (edgesL n ring)) : gentleN ring n roof = (((allH roof n).filter (softE E)).length : Int) := by
  rw [gentleN_eq ring hn, filter_congr_mem fun o _ => soft_perm hp o]
/-- the fewest deeds: what the search found -/
theorem few_eq {E : Ed} {n roof : Nat} {one other : List Int} {F : List (List Int × Nat)} {ring : Bool} (hp : E.Perm (edgesL n ring)) (hF : FinF E n roof one F) (vo : Hts n roof other) : fewV n ring one other = (valV (kvT F) (other.map Sum.inl)).getD .non := by
  unfold fewV
  by_cases h : comesB (edgesL n ring) one other = true
  · rw [if_pos h]
    have c : Comes E one other := (comes_iff E one other).mp (by rw [comes_perm hp]; exact h)
    obtain ⟨e, he⟩ := mem_keys (hF.all other vo c)
    have e2 : e = dist one other := (hF.ok _ he).2.2
    rw [valT_some hF.nd he, e2]
    rfl
  · rw [if_neg h, valT_none]
    · rfl
    · intro z
      obtain ⟨e, he⟩ := mem_keys z
      refine h ?_
      rw [← comes_perm hp]
      exact (comes_iff E one other).mpr (hF.ok _ he).2.1
theorem fewV_int (n : Nat) (ring : Bool) (hs ks : List Int) : IntN (fewV n ring hs ks) := by
  unfold fewV
  by_cases h : comesB (edgesL n ring) hs ks = true
  · rw [if_pos h]
    exact .inr ⟨_, rfl⟩
  · rw [if_neg h]
    exact .inl rfl
end Lv

namespace Lv
open PySem PySem.Spec PyProof.Rows L2 LamX NdefX LvL LvG LvM
section
variable {P : Program} {w : World} {K : PySem.W.Frag} {mg : Str → Option Value} {base : Heap}
theorem scLaw : FnScope ["_law_script", "_law_row_here", "_law_is_ring", "_law_roof", "_law_many_here", "_law_web", "_law_one", "_law_known", "_law_few", "_law_count", "_law_soft", "_law_other", "_law_here"] ["_law_script"] (defScope sLaw) := ⟨rfl, rfl, rfl, by decide +kernel, rfl, by decide +kernel, by decide +kernel⟩
/-- what the law asks for -/
def spLaw (K : PySem.W.Frag) (T2 : List (Addr × Str)) : Sp := fun vs H Q _ => ∃ (a : Addr) (ns : List Int), vs = [.ref a] ∧ SqL K H a (ns.map V.int) ∧ Tabs T2 H ∧ ∀ H', Q (.bl true) H'
/-- of two defs: which promise -/
def pick2 (fR fG : Addr) (sR sG : Sp) (f : Addr) : Option Sp := if f = fR then some sR else if f = fG then some sG else none
theorem pick2_held {k : Nat} {fR fG : Addr} {sR sG : Sp} (hR : Held P w K mg base k fR sR) (hG : Held P w K mg base k fG sG) : ∀ f sp, pick2 fR fG sR sG f = some sp → Held P w K mg base k f sp := by
  intro f sp h
  unfold pick2 at h
  by_cases h1 : f = fR
  · rw [if_pos h1] at h
    cases h
    rw [h1]
    exact hR
  · rw [if_neg h1] at h
    by_cases h2 : f = fG
    · rw [if_pos h2] at h
      cases h
      rw [h2]
      exact hG
    · rw [if_neg h2] at h
      cases h
theorem Dfn.held {k : Nat} {x : Str} {ps : List Str} {sp : Sp} {st : Stmt} {f : Addr} {fd : FuncData} (G : Got K mg x st ps f fd) (ok : FnOk P w K mg base CX0 k f fd ps sp) : Held P w K mg base k f sp := ⟨fd, ps, ok, G.F.kp, G.b⟩
theorem tabs_sameB {T : List (Addr × Str)} {H H' : Hp} {p : Addr} {l : List V} (t : Tabs T H) (hp : H p = some (.lst l)) (s : SameB p H H') : Tabs T H' := fun q hq => by
  obtain ⟨ps, h1, h2, h3⟩ := t q hq
  refine ⟨ps, s _ _ (fun z => by rw [z, hp] at h1; cases h1) h1, h2, fun pos cv hc => ?_⟩
  obtain ⟨c, e1, e2⟩ := h3 pos cv hc
  exact ⟨c, e1, s _ _ (fun z => by rw [z, hp] at e2; cases e2) e2⟩
theorem web_ext {H H' : Hp} {wb : Addr} {n : Nat} {E : Ed} (W : WebAt H wb n E) (e : ExtN H H') : WebAt H' wb n E := by
  obtain ⟨q, rs, h1, h2, h3⟩ := W.ex
  exact ⟨q, rs, e _ _ h1 (fun ps z => by cases z), e _ _ h2 (fun ps z => by cases z), h3.len, fun j r pr a b => e _ _ (h3.at_ j r pr a b) (fun ps z => by cases z)⟩
theorem got_ne {x y : Str} {st st2 : Stmt} {ps ps2 : List Str} {f g : Addr} {fd gd : FuncData} (G : Got K mg x st ps f fd) (G2 : Got K mg y st2 ps2 g gd) (h : x ≠ y) : f ≠ g := fun z => by
  obtain ⟨oc, od, kV, doc, pm, an, cdv, ct, osl, e1, lk, _⟩ := G.F.ex
  obtain ⟨oc2, od2, kV2, doc2, pm2, an2, cdv2, ct2, osl2, e2, lk2, _⟩ := G2.F.ex
  rw [z, lk2] at lk
  injection lk with lk
  injection lk with _ _ l3
  injection l3 with l4
  have n1 : fd.name = x := by rw [e1]
  have n2 : gd.name = y := by rw [e2]
  exact h (by rw [← n1, ← n2, l4])
/-- the least number of places -/
def lst (ring : Bool) : Int := if ring = true then 3 else 1
theorem pick2_ring {fR fG : Addr} {sR sG : Sp} (h : fR ≠ fG) : pick2 fR fG sR sG fG = some sG := by
  unfold pick2
  rw [if_neg h.symm, if_pos rfl]
theorem pick2_row {fR fG : Addr} {sR sG : Sp} : pick2 fR fG sR sG fR = some sR := by
  unfold pick2
  rw [if_pos rfl]
/-- how many places -/
theorem rd_many {σ : L2.St} {H : Hp} {Q : VK} {p a : Addr} {ns : List Int} {ring : Bool} (h2 : σ[2]? = some (some (.bl ring))) (h1 : σ[1]? = some (some (.ref p))) (R : RowH K a ns p H)
    (q : ∀ H' (n : Nat), SameB p H H' → RowH K a ns p H' → 1 ≤ n → n ≤ 4 → lst ring ≤ (n : Int) → Q (.int n) H') :
    tIf (tB (tVar 2)) (tOp (rI0 fun i j => .int (i + j)) (tC (.int 3)) (tCall (spTaken K) [] E0 (tCons (tVar 1) (tCons (tC (.int 2)) tNil)))) (tOp (rI0 fun i j => .int (i + j)) (tC (.int 1)) (tCall (spTaken K) [] E0 (tCons (tVar 1) (tCons (tC (.int 4)) tNil)))) σ H Q := by
  refine ⟨_, h2, _, rfl, ?_⟩
  cases ring with
  | true =>
    refine iteT ⟨_, h1, p, a, ns, 2, rfl, R, by omega, by omega, fun H1 v s1 R1 v0 v1 => ⟨_, _, rfl, rfl, ?_⟩⟩
    have e : (3 : Int) + v = ((3 + v.toNat : Nat) : Int) := by omega
    show Q (.int ((3 : Int) + v)) H1
    rw [e]
    exact q H1 _ s1 R1 (by omega) (by omega) (by show (3 : Int) ≤ _; omega)
  | false =>
    refine iteF ⟨_, h1, p, a, ns, 4, rfl, R, by omega, by omega, fun H1 v s1 R1 v0 v1 => ⟨_, _, rfl, rfl, ?_⟩⟩
    have e : (1 : Int) + v = ((1 + v.toNat : Nat) : Int) := by omega
    show Q (.int ((1 : Int) + v)) H1
    rw [e]
    exact q H1 _ s1 R1 (by omega) (by omega) (by show (1 : Int) ≤ _; omega)
/-- which three defs -/
theorem rd_pick {σ : L2.St} {H : Hp} {Q : VK} {ring : Bool} {g1 g2 g3 r1 r2 r3 : Addr} (h2 : σ[2]? = some (some (.bl ring)))
    (q : ∀ H' t, Same H H' → H' t = some (.tup [.ref (bif ring then g1 else r1), .ref (bif ring then g2 else r2), .ref (bif ring then g3 else r3)]) → Q (.ref t) H') :
    tIf (tB (tVar 2)) (tTup (tCons (tC (.ref g1)) (tCons (tC (.ref g2)) (tCons (tC (.ref g3)) tNil)))) (tTup (tCons (tC (.ref r1)) (tCons (tC (.ref r2)) (tCons (tC (.ref r3)) tNil)))) σ H Q := by
  refine ⟨_, h2, _, rfl, ?_⟩
  cases ring with
  | true => exact iteT ⟨by show 3 ≤ sizeLine; decide, fun t nt => q _ t (same_upd nt) upd_same⟩
  | false => exact iteF ⟨by show 3 ≤ sizeLine; decide, fun t nt => q _ t (same_upd nt) upd_same⟩
theorem rowOk {n r : Nat} {H : Hp} {b : Addr} {hs : List Int} {ring : Bool} (hb : HtAt H b hs) (v : Hts n r hs) (n4 : n ≤ 4) (hl : lst ring ≤ (n : Int)) (r1 : 1 ≤ r) (r9 : r ≤ 9) : RowOk n (lst ring) r H b hs :=
  ⟨hb, hl, by omega, by omega, by omega, by rw [v.len], v.mem⟩
theorem ok_law {f : Addr} {fd : FuncData} {fRF fRC fRS fGF fGC fGS : Addr} {gRF gRC gRS gGF gGC gGS : FuncData} {T2 : List (Addr × Str)} (G : Got K mg "law" sLaw ["_law_script"] f fd) (T : Txt mg)
    (GRF : Got K mg "row_fewest" sRowFewest ["many", "roof", "one", "other"] fRF gRF) (ORF : FnOk P w K mg base CX0 5 fRF gRF ["many", "roof", "one", "other"] (spFewest 1 false))
    (GGF : Got K mg "ring_fewest" sRingFewest ["many", "roof", "one", "other"] fGF gGF) (OGF : FnOk P w K mg base CX0 5 fGF gGF ["many", "roof", "one", "other"] (spFewest 3 true))
    (GRC : Got K mg "row_come_count" sRowCome ["many", "roof", "heights"] fRC gRC) (ORC : FnOk P w K mg base CX0 5 fRC gRC ["many", "roof", "heights"] (spCome T2 1 rowCome))
    (GGC : Got K mg "ring_come_count" sRingCome ["many", "roof", "heights"] fGC gGC) (OGC : FnOk P w K mg base CX0 5 fGC gGC ["many", "roof", "heights"] (spCome T2 3 ringCome))
    (GRS : Got K mg "row_gentle_count" sRowGentle ["many", "roof"] fRS gRS) (ORS : FnOk P w K mg base CX0 5 fRS gRS ["many", "roof"] (spGentle 1 rowGentle))
    (GGS : Got K mg "ring_gentle_count" sRingGentle ["many", "roof"] fGS gGS) (OGS : FnOk P w K mg base CX0 5 fGS gGS ["many", "roof"] (spGentle 3 ringGentle))
    (D1 : Dfn P w K mg base 1 "_law_taken" ["_law_row_here", "_law_many_here"] (spTaken K))
    (D2 : Dfn P w K mg base 1 "_law_many" ["_law_roof", "_law_many_here"] spMany)
    (D3 : Dfn P w K mg base 1 "_law_row" ["_law_many_here", "_law_is_ring"] spRow)
    (D4 : Dfn P w K mg base 2 "_law_heights" ["_law_row_here", "_law_many_here", "_law_roof"] (spHeights K))
    (D5 : Dfn P w K mg base 4 "_law_from" ["_law_web", "_law_roof", "_law_heights_here"] spFrom)
    (D6 : Dfn P w K mg base 4 "_law_there" ["_law_row_here", "_law_web", "_law_roof", "_law_heights_here"] (spThere K))
    (D7 : Dfn P w K mg base 1 "_law_alike" ["_law_found", "_law_due"] spAlike)
    (D8 : Dfn P w K mg base 1 "_law_every" ["_law_many_here", "_law_roof"] spEvery)
    (D9 : Dfn P w K mg base 1 "_law_steep" ["_law_web", "_law_heights_here"] spSteep) : FnOk P w K mg base CX0 6 f fd ["_law_script"] (spLaw K T2) := by
  refine (G.F.ok scLaw (fun vs H Q E h => ?_) (fun cdv A outer s H vs Q E hr h => ?_))
  · obtain ⟨a, ns, rfl, _⟩ := h
    rfl
  · obtain ⟨a, ns, rfl, sc, hT, q⟩ := h
    have hu := hu_of hr
    refine ⟨_, pss_cons (ps_set (i := 1) scLaw.nd rfl (.inl rfl) (pe_lst (pa_cons (pv 0) (pa_cons pe_int (pa_cons pe_int (pa_cons pe_int pa_nil))))))
      (pss_cons (ps_par (i := 2) (j := 3) rfl scLaw.nd rfl rfl (by decide) rfl rfl (pa_cons (pe_cmpR op_eq (pe_cd D1 hr (by decide) (by rfl) (pa_cons (pv 1) (pa_cons pe_int pa_nil))) pe_int (nomark _)) (pa_cons (pe_op op_add pe_int (pe_cd D1 hr (by decide) (by rfl) (pa_cons (pv 1) (pa_cons pe_int pa_nil)))) pa_nil)) (by rfl))
      (pss_cons (ps_set (i := 4) scLaw.nd rfl (.inl rfl) (pe_ifExp (pt_val (pv 2)) (pe_op op_add pe_int (pe_cd D1 hr (by decide) (by rfl) (pa_cons (pv 1) (pa_cons pe_int pa_nil)))) (pe_op op_add pe_int (pe_cd D1 hr (by decide) (by rfl) (pa_cons (pv 1) (pa_cons pe_int pa_nil))))))
      (pss_cons (ps_while PassesOwn.never (pt_cmpR op_gt (pe_cd D2 hr (by decide) (by rfl) (pa_cons (pv 3) (pa_cons (pv 4) pa_nil))) pe_int (nomark _))
        (pss_one (ps_set (i := 3) scLaw.nd rfl (.inl rfl) (pe_op op_sub (pv 3) pe_int))))
      (pss_cons (ps_asg (pe_tup (pa_cons (pe_cd D3 hr (by decide) (by rfl) (pa_cons (pv 4) (pa_cons (pv 2) pa_nil))) (pa_cons (pe_cd D4 hr (by decide) (by rfl) (pa_cons (pv 1) (pa_cons (pv 4) (pa_cons (pv 3) pa_nil)))) pa_nil))) (pg_tup rfl (pgs_cons (pg_name (i := 5) scLaw.nd rfl (.inr rfl)) (pgs_cons (pg_name (i := 6) scLaw.nd rfl (.inl rfl)) pgs_nil))))
      (pss_cons (ps_set (i := 7) scLaw.nd rfl (.inl rfl) (pe_cd D5 hr (by decide) (by rfl) (pa_cons (pv 5) (pa_cons (pv 3) (pa_cons (pv 6) pa_nil)))))
      (pss_cons (ps_asg (pe_ifExp (pt_val (pv 2)) (pe_tup (pa_cons (pe_glob (v := .ref fGF) rfl GGF.g rfl) (pa_cons (pe_glob (v := .ref fGC) rfl GGC.g rfl) (pa_cons (pe_glob (v := .ref fGS) rfl GGS.g rfl) pa_nil))))
          (pe_tup (pa_cons (pe_glob (v := .ref fRF) rfl GRF.g rfl) (pa_cons (pe_glob (v := .ref fRC) rfl GRC.g rfl) (pa_cons (pe_glob (v := .ref fRS) rfl GRS.g rfl) pa_nil)))))
          (pg_tup rfl (pgs_cons (pg_name (i := 8) scLaw.nd rfl (.inl rfl)) (pgs_cons (pg_name (i := 9) scLaw.nd rfl (.inl rfl)) (pgs_cons (pg_name (i := 10) scLaw.nd rfl (.inl rfl)) pgs_nil)))))
      (pss_cons (ps_for PassesOwn.never rfl (pi_list (pe_lst (pa_cons (pe_cd D4 hr (by decide) (by rfl) (pa_cons (pv 1) (pa_cons (pv 4) (pa_cons (pv 3) pa_nil)))) (pa_cons (pe_cd D6 hr (by decide) (by rfl) (pa_cons (pv 1) (pa_cons (pv 5) (pa_cons (pv 3) (pa_cons (pv 6) pa_nil))))) pa_nil)))) (pg_name (i := 11) scLaw.nd rfl (.inl rfl))
        (pss_one (ps_if (pt_not (pt_val (pe_cd D7 hr (by decide) (by rfl) (pa_cons (pe_callA (i := 8) (S := pick2 fRF fGF (spFewest 1 false) (spFewest 3 true)) (pick2_held (Dfn.held GRF ORF) (Dfn.held GGF OGF)) hr rfl (.inl rfl) (pa_cons (pv 4) (pa_cons (pv 3) (pa_cons (pv 6) (pa_cons (pv 11) pa_nil)))))
            (pa_cons (pe_dget2 hu (pv 7) (pv 11) pe_non ⟨rfl, rfl, rfl, rfl⟩) pa_nil))))) (pss_one (ps_ret pe_bl)) pss_nil)))
      (pss_cons (ps_if (pt_not (pt_val (pe_cd D7 hr (by decide) (by rfl) (pa_cons (pe_callA (i := 9) (S := pick2 fRC fGC (spCome T2 1 rowCome) (spCome T2 3 ringCome)) (pick2_held (Dfn.held GRC ORC) (Dfn.held GGC OGC)) hr rfl (.inl rfl) (pa_cons (pv 4) (pa_cons (pv 3) (pa_cons (pv 6) pa_nil))))
            (pa_cons (pe_callB call_len_dT (by rfl) T.len PySem.boot_len (pa_cons (pv 7) pa_nil)) pa_nil))))) (pss_one (ps_ret pe_bl)) pss_nil)
      (pss_one (ps_ret (pe_cd D7 hr (by decide) (by rfl) (pa_cons (pe_callA (i := 10) (S := pick2 fRS fGS (spGentle 1 rowGentle) (spGentle 3 ringGentle)) (pick2_held (Dfn.held GRS ORS) (Dfn.held GGS OGS)) hr rfl (.inl rfl) (pa_cons (pv 4) (pa_cons (pv 3) pa_nil)))
            (pa_cons (pe_callB call_len_seq (by rfl) T.len PySem.boot_len (pa_cons (pe_lc (own := [("_law_here", 12)]) (g := gName 12) rfl scLaw.nd (pi_list (pe_cd D8 hr (by decide) (by rfl) (pa_cons (pv 4) (pa_cons (pv 3) pa_nil))))
              (blkOk_by (N := ["_law_script", "_law_row_here", "_law_is_ring", "_law_roof", "_law_many_here", "_law_web", "_law_one", "_law_known", "_law_few", "_law_count", "_law_soft", "_law_other", "_law_here"]) (sc := defScope sLaw) (by decide +kernel))
              (fun _ _ _ _ _ => pg_name (i := 12) scLaw.nd rfl (.inl rfl))
              (fun _ _ _ _ _ => pts_one (pt_cmpR (r := rEqD K) (op_eqD hr.units) (pe_cd D9 hr (by decide) (by rfl) (pa_cons (pv 5) (pa_cons (pv 12) pa_nil))) (pe_lst pa_nil) (nomark _)))
              (fun _ _ _ _ _ => pv 12)) pa_nil)) pa_nil))))))))))))), ?_⟩
    refine ⟨_, rfl, by show 4 ≤ sizeLine; decide, fun p np => ?_⟩
    have s0 : Same H (L2.upd H p (.lst [.ref a, .int 0, .int 9729, .int 0])) := same_upd np
    have R0 : RowH K a ns p (L2.upd H p (.lst [.ref a, .int 0, .int 9729, .int 0])) := ⟨⟨0, 9729, 0, upd_same, by omega, by omega, by omega⟩, s0.seq sc⟩
    have hT0 := hT.ext s0
    generalize L2.upd H p (.lst [.ref a, .int 0, .int 9729, .int 0]) = H0 at R0 hT0
    obtain ⟨l0, hp0⟩ := R0.lst
    -- is_ring, roof
    refine ⟨_, rfl, p, a, ns, 2, rfl, R0, by omega, by omega, fun H1 v s1 R1 _ _ => ⟨rfl, ?_⟩⟩
    refine ⟨_, rfl, p, a, ns, 4, rfl, R1, by omega, by omega, fun H2 u s2 R2 u0 u1 => ?_⟩
    obtain ⟨r0, er0⟩ : ∃ r0 : Nat, (1 : Int) + u = (r0 : Int) := ⟨(1 + u).toNat, by omega⟩
    refine ⟨_, _, rfl, rfl, .bl (decide (V.int v = V.int 0)), .int (r0 : Int), (by
      show [V.bl (decide (V.int v = V.int 0)), V.int ((1 : Int) + u)] = _
      rw [er0]), ?_⟩
    generalize decide (V.int v = V.int 0) = ring
    have s02 := s1.trans s2
    -- many
    refine rd_many (ring := ring) rfl rfl R2 fun H3 n s3 R3 n1 n4 hlst => ?_
    have s03 := s02.trans s3
    have hT3 := tabs_sameB hT0 hp0 s03
    -- the roof
    refine ⟨fun m σ H' => ∃ r : Nat, σ = [some (.ref a), some (.ref p), some (.bl ring), some (.int (r : Int)), some (.int (n : Int)), none, none, none, none, none, none, none, none] ∧ H3 = H' ∧ 1 ≤ r ∧ r ≤ 4 ∧ m = r, ⟨r0, r0, rfl, rfl, by omega, by omega, rfl⟩, ?_⟩
    rintro m σ H' ⟨r, rfl, rfl, r1, r4, em⟩
    refine ⟨_, rfl, _, rfl, r, n, rfl, by omega, by omega, _, _, rfl, rfl, _, rfl, ?_⟩
    by_cases hbig : (260 : Int) < (((r + 1) ^ n : Nat) : Int)
    · rw [decide_eq_true hbig]
      refine iteT ⟨fun σ' H' => ∃ r' : Nat, σ' = [some (.ref a), some (.ref p), some (.bl ring), some (.int (r' : Int)), some (.int (n : Int)), none, none, none, none, none, none, none, none] ∧ H3 = H' ∧ 1 ≤ r' ∧ r' < m, ?_, ?_⟩
      · rintro σ' H' ⟨r', e1, e2, e3, e4⟩
        exact ⟨r', e4, r', e1, e2, e3, by omega, rfl⟩
      · have hr2 : r ≠ 1 := fun z => by
          subst z
          have : (1 + 1) ^ n ≤ 2 ^ 4 := Nat.pow_le_pow_right (by omega) n4
          have : (1 + 1) ^ n ≤ 16 := this
          omega
        refine ⟨_, rfl, _, _, rfl, rfl, r - 1, ?_, rfl, by omega, by omega⟩
        show ([some (.ref a), some (.ref p), some (.bl ring), some (.int ((r : Int) - 1)), some (.int (n : Int)), none, none, none, none, none, none, none, none] : L2.St) = _
        rw [show ((r : Int) - 1) = ((r - 1 : Nat) : Int) by omega]
    · rw [decide_eq_false hbig]
      refine iteF ?_
      have hpow : (r + 1) ^ n ≤ 500 := by omega
      -- the web, the first heights
      refine ⟨_, rfl, _, rfl, n, ring, rfl, n1, by omega, fun H4 wb E s4 W hp => ?_⟩
      have hE : EdIn E n := edIn_perm hp (edgesL_in ring n1)
      have R4 := R3.same s4
      have hT4 := hT3.ext s4
      obtain ⟨l4, hp4⟩ := R4.lst
      refine ⟨_, rfl, _, rfl, _, rfl, p, a, ns, n, r, rfl, R4, by omega, r1, by omega, fun H5 b1 one s5 R5 hb1 v1 => ?_⟩
      have W5 := W.sameB s5 hp4
      have hT5 := tabs_sameB hT4 hp4 s5
      refine ⟨by show 2 ≤ sizeLine; decide, fun t nt => ⟨_, _, rfl, SqT.of upd_same, rfl, _, _, rfl, _, [], rfl, rfl, ?_⟩⟩
      have s6 : Same H5 (L2.upd H5 t (.tup [.ref wb, .ref b1])) := same_upd nt
      have R6 := R5.same s6
      have W6 := W5.same s6
      have hT6 := hT5.ext s6
      have hb6 : HtAt (L2.upd H5 t (.tup [.ref wb, .ref b1])) b1 one := s6 _ _ hb1
      generalize L2.upd H5 t (.tup [.ref wb, .ref b1]) = H6 at R6 W6 hT6 hb6
      -- all that come
      refine ⟨_, rfl, _, rfl, _, rfl, wb, b1, n, r, E, one, rfl, W6, hE, n1, by omega, hpow, hb6, v1, fun H7 d F s7 hd hF => ?_⟩
      have R7 := R6.same s7
      have W7 := W6.same s7
      have hT7 := hT6.ext s7
      have hb7 : HtAt H7 b1 one := s7 _ _ hb6
      -- which defs
      refine rd_pick (ring := ring) rfl fun H8 t8 s8 ht8 => ?_
      refine ⟨_, _, rfl, SqT.of ht8, rfl, _, _, rfl, _, _, rfl, _, [], rfl, rfl, ?_⟩
      have hd8 := s8 _ _ hd
      have R8 := R7.same s8
      have W8 := W7.same s8
      have hT8 := hT7.ext s8
      have hb8 : HtAt H8 b1 one := s8 _ _ hb7
      have hF1 : pick2 fRF fGF (spFewest 1 false) (spFewest 3 true) (bif ring then fGF else fRF) = some (spFewest (lst ring) ring) := by
        cases ring with
        | true => exact pick2_ring (got_ne GRF GGF (by decide))
        | false => exact pick2_row
      have hF2 : pick2 fRC fGC (spCome T2 1 rowCome) (spCome T2 3 ringCome) (bif ring then fGC else fRC) = some (spCome T2 (lst ring) (comeN ring)) := by
        cases ring with
        | true => exact pick2_ring (got_ne GRC GGC (by decide))
        | false => exact pick2_row
      have hF3 : pick2 fRS fGS (spGentle 1 rowGentle) (spGentle 3 ringGentle) (bif ring then fGS else fRS) = some (spGentle (lst ring) (gentleN ring)) := by
        cases ring with
        | true => exact pick2_ring (got_ne GRS GGS (by decide))
        | false => exact pick2_row
      obtain ⟨l8, hp8⟩ := R8.lst
      -- two other heights
      refine ⟨_, rfl, _, rfl, _, rfl, p, a, ns, n, r, rfl, R8, by omega, r1, by omega, fun H9 b2 two s9 R9 hb2 v2 => ?_⟩
      have W9 := W8.sameB s9 hp8
      have hT9 := tabs_sameB hT8 hp8 s9
      have hb9 : HtAt H9 b1 one := s9.tup hp8 hb8
      have dp : d ≠ p := fun z => by
        rw [z, hp8] at hd8
        cases hd8
      have hd9 := s9 _ _ dp hd8
      obtain ⟨l9, hp9⟩ := R9.lst
      refine ⟨_, rfl, _, rfl, _, rfl, _, rfl, p, a, wb, b1, ns, n, r, E, one, rfl, R9, W9, hE, n1, by omega, r1, by omega, hb9, v1, fun H10 b3 three s10 R10 hb3 v3 => ?_⟩
      have W10 := W9.sameB s10 hp9
      have hT10 := tabs_sameB hT9 hp9 s10
      have hb10 : HtAt H10 b1 one := s10.tup hp9 hb9
      have hb210 : HtAt H10 b2 two := s10.tup hp9 hb2
      have hd10 := s10 _ _ dp hd9
      refine ⟨by show 2 ≤ sizeLine; decide, fun l nl => ⟨l, rfl, ⟨_, SqL.of upd_same⟩, ?_⟩⟩
      have s11 : Same H10 (L2.upd H10 l (.lst [.ref b2, .ref b3])) := same_upd nl
      have W11 := W10.same s11
      have hT11 := hT10.ext s11
      have hb11 : HtAt (L2.upd H10 l (.lst [.ref b2, .ref b3])) b1 one := s11 _ _ hb10
      have hb211 : HtAt (L2.upd H10 l (.lst [.ref b2, .ref b3])) b2 two := s11 _ _ hb210
      have hb311 : HtAt (L2.upd H10 l (.lst [.ref b2, .ref b3])) b3 three := s11 _ _ hb3
      have hd11 := s11 _ _ hd10
      have hl11 : (L2.upd H10 l (.lst [.ref b2, .ref b3])) l = some (.lst [.ref b2, .ref b3]) := upd_same
      generalize L2.upd H10 l (.lst [.ref b2, .ref b3]) = H11 at W11 hT11 hb11 hb211 hb311 hd11 hl11
      refine for_it (walk_list (K := K) (a := l) (xs := [.ref b2, .ref b3])) (fun i σ H' => ∃ y11 : Option V, σ = [some (.ref a), some (.ref p), some (.bl ring), some (.int (r : Int)), some (.int (n : Int)), some (.ref wb), some (.ref b1), some (.ref d), some (.ref (bif ring then fGF else fRF)), some (.ref (bif ring then fGC else fRC)), some (.ref (bif ring then fGS else fRS)), y11, none] ∧ Same H11 H')
        ⟨none, rfl, fun _ _ e => e⟩ (fun j σ H' _ ⟨_, _, e⟩ => SqL.of (e _ _ hl11)) ?_ ?_
      · rintro i x σ H12 H13 hi ⟨y11, rfl, s12⟩ ⟨rfl, hx⟩
        obtain ⟨b, other, rfl, hb, vo⟩ : ∃ b other, x = .ref b ∧ HtAt H13 b other ∧ Hts n r other := by
          match i, hx with
          | 0, hx => cases hx; exact ⟨b2, two, rfl, s12 _ _ hb211, v2⟩
          | 1, hx => cases hx; exact ⟨b3, three, rfl, s12 _ _ hb311, v3⟩
          | j + 2, hx => simp at hx
        refine ⟨_, _, rfl, hF1, _, rfl, _, rfl, _, rfl, _, rfl, n, r, b1, b, one, other, rfl, n1, rowOk (s12 _ _ hb11) v1 n4 hlst r1 (by omega), rowOk hb vo n4 hlst r1 (by omega), fun H14 s14 => ?_⟩
        have hd14 := s14 _ _ (s12 _ _ hd11)
        refine ⟨_, rfl, d, rfl, .inr ⟨_, .inl hd14⟩, _, rfl, _, get_hF hd14 (s14 _ _ hb), ?_⟩
        have e1 := few_eq hp hF vo
        refine ⟨_, _, rfl, fewV_int _ _ _ _, (by rw [← e1]; exact fewV_int _ _ _ _), fun H15 s15 => ⟨true, by rw [decide_eq_true e1], iteF ?_⟩⟩
        exact ⟨_, rfl, (s12.trans s14).trans s15⟩
      · rintro σ H13 ⟨y11, rfl, s13⟩
        have hT13 := hT11.ext s13
        refine ⟨_, _, rfl, hF2, _, rfl, _, rfl, _, rfl, n, r, b1, one, rfl, n1, rowOk (s13 _ _ hb11) v1 n4 hlst r1 (by omega), hT13, fun H14 e14 hT14 => ?_⟩
        have hd14 : H14 d = some (.dT (kvT F)) := e14 _ _ (s13 _ _ hd11) (fun ps z => by cases z)
        have W14 := web_ext (W11.same s13) e14
        refine ⟨_, rfl, d, kvT F, rfl, hd14, ?_⟩
        have e2 : V.int (comeN ring n r one) = V.int (((kvT F).length : Nat) : Int) := by
          rw [come_eq n1 hp hF]
          unfold kvT
          rw [List.length_map]
        refine ⟨_, _, rfl, .inr ⟨_, rfl⟩, .inr ⟨_, rfl⟩, fun H15 s15 => ⟨true, by rw [decide_eq_true e2], iteF ?_⟩⟩
        have W15 := W14.same s15
        -- the gentle ones
        refine ⟨_, _, rfl, hF3, _, rfl, _, rfl, n, r, rfl, hlst, n1, by omega, r1, by omega, fun H16 s16 => ?_⟩
        have W16 := W15.same s16
        have hEl : E.length ≤ 100 := by
          have h1 := hp.length_eq
          have h2 := edgesL_len n ring
          omega
        refine ⟨_, rfl, _, rfl, n, r, rfl, by omega, by omega, hpow, fun H17 le rs s17 hle hrs => ⟨le, rfl, ⟨_, SqL.of hle⟩, fun D hD => ?_⟩⟩
        have hrl := hrs.len
        have hal := allH_len r n
        refine lc_it (walk_list (K := K) (a := le) (xs := rs.map V.ref)) (fun i H' => Same H17 H' ∧ ∃ acc : List V, H' D = some (.lst acc) ∧ acc.length = (((allH r n).take i).filter (softE E)).length)
          ⟨same_upd hD, [], upd_same, rfl⟩ (fun i H' _ ⟨s18, _⟩ => SqL.of (s18 _ _ hle)) ?_ ?_
        · rintro i x H18 H19 hi ⟨s18, acc, eD, hacc⟩ ⟨rfl, hx⟩
          obtain ⟨b, o, rfl, ho, hro⟩ := (hrs.mono hF_st (SameT.of s18)).get hx
          have hro : HtAt H19 b o := hro
          have etk : (allH r n).take (i + 1) = (allH r n).take i ++ [o] := by rw [List.take_add_one, ho]; rfl
          refine ⟨rfl, ?_⟩
          refine ⟨_, rfl, _, rfl, wb, b, n, E, o, rfl, W16.same (s17.trans s18), hE, hEl, hro, allH_length (List.mem_of_getElem? ho), fun H20 pp rs2 ps s20 hpp hps hiff => ?_⟩
          refine ⟨Nat.zero_le _, fun l2 nl2 => ?_⟩
          have s21 := same_upd (o := .lst []) nl2
          refine ⟨_, _, .lst (SqL.of (s21 _ _ hpp)) (dp_prs (hps.same s21)), .lst (SqL.of upd_same) .nil, prD2s_shaped ps, by decide +kernel, _, rfl, ?_⟩
          rw [eqv_nil]
          have s22 := s20.trans s21
          by_cases hso : softE E o = true
          · rw [decide_eq_true (hiff.mpr hso)]
            refine iteT ⟨_, rfl, acc, s22 _ _ eD, ?_, ?_, _, upd_same, ?_⟩
            · have h1 := List.length_filter_le (softE E) ((allH r n).take i)
              rw [List.length_take] at h1
              exact small1000 (by omega)
            · exact fun c o e => by
                rw [upd_ne (ne_of_none e hD)]
                exact s22 _ _ (s18 _ _ e)
            · rw [etk, List.filter_append, List.filter_cons_of_pos hso, List.length_append, List.length_append, hacc]
              rfl
          · rw [decide_eq_false (fun z => hso (hiff.mp z))]
            refine iteF ⟨s18.trans s22, acc, s22 _ _ eD, ?_⟩
            rw [etk, List.filter_append, List.filter_cons_of_neg hso, List.filter_nil, List.append_nil]
            exact hacc
        · rintro H18 ⟨s18, acc, eD, hacc⟩
          rw [List.length_map, hrl, List.take_length] at hacc
          have e3 : V.int (gentleN ring n r) = V.int ((acc.length : Nat) : Int) := by
            rw [gentle_eq n1 hp, hacc]
          refine ⟨D, _, rfl, .inl (SqL.of eD), _, _, rfl, .inr ⟨_, rfl⟩, .inr ⟨_, rfl⟩, fun H19 s19 => ?_⟩
          rw [decide_eq_true e3]
          exact q _
end
end Lv

namespace Lv
open PySem PySem.Spec PyProof.Rows L2 LamX NdefX LvL LvG LvM
/-! ### the end -/
theorem got_mk {K : PySem.W.Frag} {h : Heap} {mg : Str → Option Value} {x : Str} {st : Stmt} {ps : List Str} {f : Addr} {oc : Value} {od an : Option Addr} {osl : Array (Option Value)} {kV doc pm cdv ct : Value} (X : K.In h) (G : h.Ns mainGlobals mg)
    (a : PySem.W.nsIn K mainGlobals x = some (some (.ref f))) (l : K.lookup f = some ⟨oc, od, .func (PySem.W.fnOf x x (defArgs st) (defBody st) (defScope st) .none kV doc pm an cdv ct), osl⟩) (c : PySem.W.codeIn K cdv x = true) (k : PySem.W.keepIn K (.ref f) = true)
    (hb : ∀ (kV doc pm : Value) (an : Option Addr) (cdv ct : Value) (us : List Value), us.length = ps.length → bindArgs (PySem.W.fnOf x x (defArgs st) (defBody st) (defScope st) .none kV doc pm an cdv ct) ⟨us, []⟩ = pure (ps.zip us)) :
    Got K mg x st ps f (PySem.W.fnOf x x (defArgs st) (defBody st) (defScope st) .none kV doc pm an cdv ct) :=
  ⟨fun_mk (st := st) l c k, (fun_mk (st := st) l c k).binds hb, PySem.W.mg_of X G a⟩
theorem law_at {l : PySem.W.OpenLaw} {w : World} {K : PySem.W.Frag} {mg : Str → Option Value} {fa c1 c2 P1 P2 fL : Addr} {h : Heap} {gL : FuncData} {f_0 f_1 f_2 f_3 f_4 f_5 f_6 f_7 f_8 f_9 f_10 f_11 f_12 f_13 f_14 f_15 f_16 f_17 f_18 f_19 f_20 f_21 f_22 f_23 f_24 f_25 f_26 f_27 f_28 f_29 f_30 f_31 : Addr} {e_0 e_1 e_2 e_3 e_4 e_5 e_6 e_7 e_8 e_9 e_10 e_11 e_12 e_13 e_14 e_15 e_16 e_17 e_18 e_19 e_20 e_21 e_22 e_23 e_24 e_25 e_26 e_27 e_28 e_29 e_30 e_31 : FuncData} (hfa : mg "law" = some (.ref fa)) (T : Txt mg)
    (g_is_in : Got K mg "is_in" sIsIn ["value", "least", "most"] f_0 e_0)
    (g_need_roof : Got K mg "need_roof" sNeedRoof ["roof"] f_1 e_1)
    (g_need_many : Got K mg "need_many" sNeedMany ["many", "least"] f_2 e_2)
    (g_need_heights : Got K mg "need_heights" sNeedHeights ["many", "roof", "heights"] f_3 e_3)
    (g_need_row : Got K mg "need_row" sNeedRow ["many", "least", "roof", "heights"] f_4 e_4)
    (g_need_rows : Got K mg "need_rows" sNeedRows ["many", "least", "roof", "one", "other"] f_5 e_5)
    (g_fits : Got K mg "fits" sFits ["low", "high", "from_low", "from_high"] f_6 e_6)
    (g_is_soft : Got K mg "is_soft" sIsSoft ["low", "high"] f_7 e_7)
    (g_steps_in : Got K mg "steps_in" sStepsIn ["one", "other"] f_8 e_8)
    (g_edges_of : Got K mg "edges_of" sEdgesOf ["many", "is_ring"] f_9 e_9)
    (g_comes_on : Got K mg "comes_on" sComesOn ["edges", "one", "other"] f_10 e_10)
    (g_row_fewest : Got K mg "row_fewest" sRowFewest ["many", "roof", "one", "other"] f_11 e_11)
    (g_ring_fewest : Got K mg "ring_fewest" sRingFewest ["many", "roof", "one", "other"] f_12 e_12)
    (g_grown : Got K mg "grown" sGrown ["rows", "roof", "lets"] f_13 e_13)
    (g_row_gentle_count : Got K mg "row_gentle_count" sRowGentle ["many", "roof"] f_14 e_14)
    (g_ring_gentle_count : Got K mg "ring_gentle_count" sRingGentle ["many", "roof"] f_15 e_15)
    (g_row_come_count : Got K mg "row_come_count" sRowCome ["many", "roof", "heights"] f_16 e_16)
    (g_ring_come_count : Got K mg "ring_come_count" sRingCome ["many", "roof", "heights"] f_17 e_17)
    (g_law_taken : Got K mg "_law_taken" sTaken ["_law_row_here", "_law_many_here"] f_18 e_18)
    (g_law_many : Got K mg "_law_many" sMany ["_law_roof", "_law_many_here"] f_19 e_19)
    (g_law_row : Got K mg "_law_row" sRow ["_law_many_here", "_law_is_ring"] f_20 e_20)
    (g_law_step : Got K mg "_law_step" sStep ["_law_heights_here", "_law_deed"] f_21 e_21)
    (g_law_beside : Got K mg "_law_beside" sBeside ["_law_web", "_law_place"] f_22 e_22)
    (g_law_deeds : Got K mg "_law_deeds" sDeeds ["_law_web", "_law_roof", "_law_heights_here"] f_23 e_23)
    (g_law_heights : Got K mg "_law_heights" sHeights ["_law_row_here", "_law_many_here", "_law_roof"] f_24 e_24)
    (g_law_after : Got K mg "_law_after" sAfter ["_law_web", "_law_roof", "_law_heights_here"] f_25 e_25)
    (g_law_pick : Got K mg "_law_pick" sPick ["_law_row_here", "_law_things"] f_26 e_26)
    (g_law_there : Got K mg "_law_there" sThere ["_law_row_here", "_law_web", "_law_roof", "_law_heights_here"] f_27 e_27)
    (g_law_alike : Got K mg "_law_alike" sAlike ["_law_found", "_law_due"] f_28 e_28)
    (g_law_every : Got K mg "_law_every" sEvery ["_law_many_here", "_law_roof"] f_29 e_29)
    (g_law_steep : Got K mg "_law_steep" sSteep ["_law_web", "_law_heights_here"] f_30 e_30)
    (g_law_from : Got K mg "_law_from" sFrom ["_law_web", "_law_roof", "_law_heights_here"] f_31 e_31)
    (gLaw : Got K mg "law" sLaw ["_law_script"] fL gL) (hbL : ∀ (s : Shared) (u : Value), BindsTo s gL ⟨[u], []⟩ [("_law_script", u)])
    (hc1 : e_16.code = .ref c1) (hc2 : e_17.code = .ref c2) (hne : P1 ≠ P2) (t1 : h.get? P1 = some { cls := .none, data := .fields #[] }) (t2 : h.get? P2 = some { cls := .none, data := .fields #[] }) (n1 : K.lookup P1 = none) (n2 : K.lookup P2 = none) (C1 : PySem.W.CodeHd h c1 P1) (C2 : PySem.W.CodeHd h c2 P2) :
    LawAtS l w K CX0 6 63 "_law_script" mg fa h := by
  obtain rfl : fL = fa := by
    have e := gLaw.g.symm.trans hfa
    cases e
    rfl
  refine ⟨gL, [(c1, P1), (c2, P2)], spLaw K [(P1, qRow), (P2, qRing)], ?_, ?_, ?_, hbL, ?_, ?_⟩
  · intro p hp
    rcases List.mem_cons.mp hp with rfl | hp
    · exact t1
    · rw [List.mem_singleton.mp hp]
      exact t2
  · intro p hp
    rcases List.mem_cons.mp hp with rfl | hp
    · exact n1
    · rw [List.mem_singleton.mp hp]
      exact n2
  · intro p hp
    rcases List.mem_cons.mp hp with rfl | hp
    · exact C1
    · rw [List.mem_singleton.mp hp]
      exact C2
  · intro H a ns _ _ hP hS
    refine ⟨a, ns, rfl, hS, fun p hp => ?_, fun _ => rfl⟩
    rcases List.mem_cons.mp hp with rfl | hp
    · exact TabS.nil (hP (c1, P1) List.mem_cons_self)
    · rw [List.mem_singleton.mp hp]
      exact TabS.nil (hP (c2, P2) (List.mem_cons_of_mem _ List.mem_cons_self))
  · intro base _ _ TB
    have TB1 := TB (c1, P1) List.mem_cons_self
    have TB2 := TB (c2, P2) (List.mem_cons_of_mem _ List.mem_cons_self)
    have m1 : (P1, qRow) ∈ [(P1, qRow), (P2, qRing)] := List.mem_cons_self
    have m2 : (P2, qRing) ∈ [(P1, qRow), (P2, qRing)] := List.mem_cons_of_mem _ List.mem_cons_self
    have u1 : ∀ p ∈ [(P1, qRow), (P2, qRing)], p.1 = P1 → p.2 = qRow := fun p hp e => by
      rcases List.mem_cons.mp hp with rfl | hp
      · rfl
      · rw [List.mem_singleton.mp hp] at e
        exact (hne e.symm).elim
    have u2 : ∀ p ∈ [(P1, qRow), (P2, qRing)], p.1 = P2 → p.2 = qRing := fun p hp e => by
      rcases List.mem_cons.mp hp with rfl | hp
      · exact (hne e).elim
      · rw [List.mem_singleton.mp hp]
    have d_is_in := ok_is_in (P := l.prog) (w := w) (base := base) g_is_in T
    have d_need_roof := ok_need_roof (P := l.prog) (w := w) (base := base) g_need_roof T d_is_in
    have d_need_many := ok_need_many (P := l.prog) (w := w) (base := base) g_need_many T d_is_in
    have d_need_heights := ok_need_heights (P := l.prog) (w := w) (base := base) g_need_heights T d_is_in
    have d_need_row := ok_need_row (P := l.prog) (w := w) (base := base) g_need_row d_need_many d_need_roof d_need_heights
    have d_need_rows := ok_need_rows (P := l.prog) (w := w) (base := base) g_need_rows d_need_row d_need_heights
    have d_fits := ok_fits (P := l.prog) (w := w) (base := base) g_fits
    have d_is_soft := ok_is_soft (P := l.prog) (w := w) (base := base) g_is_soft T
    have d_steps_in := ok_steps_in (P := l.prog) (w := w) (base := base) g_steps_in T
    have d_edges_of := ok_edges_of (P := l.prog) (w := w) (base := base) g_edges_of T
    have d_comes_on := ok_comes_on (P := l.prog) (w := w) (base := base) g_comes_on d_fits
    have d_row_fewest := ok_row_fewest (P := l.prog) (w := w) (base := base) g_row_fewest d_need_rows d_comes_on d_edges_of d_steps_in
    have d_ring_fewest := ok_ring_fewest (P := l.prog) (w := w) (base := base) g_ring_fewest d_need_rows d_comes_on d_edges_of d_steps_in
    have d_grown := ok_grown (P := l.prog) (w := w) (base := base) g_grown T
    have d_row_gentle_count := ok_row_gentle (P := l.prog) (w := w) (base := base) g_row_gentle_count T d_need_many d_need_roof d_grown g_is_soft d_is_soft
    have d_ring_gentle_count := ok_ring_gentle (P := l.prog) (w := w) (base := base) g_ring_gentle_count T d_need_many d_need_roof d_grown g_is_soft d_is_soft
    have d_row_come_count := ok_row_come (P := l.prog) (w := w) (base := base) g_row_come_count hc1 TB1 m1 u1 T d_need_row d_grown d_fits
    have d_ring_come_count := ok_ring_come (P := l.prog) (w := w) (base := base) g_ring_come_count hc2 TB2 m2 u2 T d_need_row d_grown d_fits
    have d_law_taken := ok_taken (P := l.prog) (w := w) (base := base) g_law_taken T
    have d_law_many := ok_many (P := l.prog) (w := w) (base := base) g_law_many T
    have d_law_row := ok_row (P := l.prog) (w := w) (base := base) g_law_row T
    have d_law_step := ok_step (P := l.prog) (w := w) (base := base) g_law_step T
    have d_law_beside := ok_beside (P := l.prog) (w := w) (base := base) g_law_beside T
    have d_law_deeds := ok_deeds (P := l.prog) (w := w) (base := base) g_law_deeds T d_law_beside
    have d_law_heights := ok_heights (P := l.prog) (w := w) (base := base) g_law_heights T d_law_taken
    have d_law_after := ok_after (P := l.prog) (w := w) (base := base) g_law_after d_law_deeds d_law_step
    have d_law_pick := ok_pick (P := l.prog) (w := w) (base := base) g_law_pick T d_law_taken
    have d_law_there := ok_there (P := l.prog) (w := w) (base := base) g_law_there T d_law_taken d_law_pick d_law_after d_law_heights
    have d_law_alike := ok_alike (P := l.prog) (w := w) (base := base) g_law_alike T
    have d_law_every := ok_every (P := l.prog) (w := w) (base := base) g_law_every T
    have d_law_steep := ok_steep (P := l.prog) (w := w) (base := base) g_law_steep T
    have d_law_from := ok_from (P := l.prog) (w := w) (base := base) g_law_from T d_law_after
    exact ok_law gLaw T g_row_fewest d_row_fewest g_ring_fewest d_ring_fewest g_row_come_count d_row_come_count g_ring_come_count d_ring_come_count g_row_gentle_count d_row_gentle_count g_ring_gentle_count d_ring_gentle_count d_law_taken d_law_many d_law_row d_law_heights d_law_from d_law_there d_law_alike d_law_every d_law_steep
end Lv

open PySem PySem.W PyProof.Rows
set_option maxHeartbeats 0 in
theorem PySem.Challenge.cw_levellers_k29_whole_rows_and_rings_holds : PySem.Challenge.rw_levellers_k29_whole_rows_and_rings.Holds := by
  w_on; o_law; k_head; (case hw => w_witness2)
  k_fill
  refine LamX.walk_ofTs (n := 63) (k := 6) (x := "_law_script") (CX := fun _ _ _ _ _ _ _ => False) rfl (by decide) rfl ⟨rfl, by decide, by decide⟩ (fun w h Y => PySem.W.km_in_of Y) ?F (fun _ _ _ _ _ z => z)
  case F =>
    intro w mg fa h Y KX G hmg
    obtain ⟨f_0, e_0, g_is_in⟩ : ∃ f fd, Lv.Got _ mg "is_in" Lv.sIsIn ["value", "least", "most"] f fd := by
      refine' ⟨_, _, Lv.got_mk KX G ?a ?l ?c ?k ?b⟩
      (case a => k_is); (case l => k_is); (case c => k_is); (case k => k_is)
      case b => exact fun _ _ _ _ _ _ us hl => match us, hl with | [_, _, _], _ => rfl
    obtain ⟨f_1, e_1, g_need_roof⟩ : ∃ f fd, Lv.Got _ mg "need_roof" Lv.sNeedRoof ["roof"] f fd := by
      refine' ⟨_, _, Lv.got_mk KX G ?a ?l ?c ?k ?b⟩
      (case a => k_is); (case l => k_is); (case c => k_is); (case k => k_is)
      case b => exact fun _ _ _ _ _ _ us hl => match us, hl with | [_], _ => rfl
    obtain ⟨f_2, e_2, g_need_many⟩ : ∃ f fd, Lv.Got _ mg "need_many" Lv.sNeedMany ["many", "least"] f fd := by
      refine' ⟨_, _, Lv.got_mk KX G ?a ?l ?c ?k ?b⟩
      (case a => k_is); (case l => k_is); (case c => k_is); (case k => k_is)
      case b => exact fun _ _ _ _ _ _ us hl => match us, hl with | [_, _], _ => rfl
    obtain ⟨f_3, e_3, g_need_heights⟩ : ∃ f fd, Lv.Got _ mg "need_heights" Lv.sNeedHeights ["many", "roof", "heights"] f fd := by
      refine' ⟨_, _, Lv.got_mk KX G ?a ?l ?c ?k ?b⟩
      (case a => k_is); (case l => k_is); (case c => k_is); (case k => k_is)
      case b => exact fun _ _ _ _ _ _ us hl => match us, hl with | [_, _, _], _ => rfl
    obtain ⟨f_4, e_4, g_need_row⟩ : ∃ f fd, Lv.Got _ mg "need_row" Lv.sNeedRow ["many", "least", "roof", "heights"] f fd := by
      refine' ⟨_, _, Lv.got_mk KX G ?a ?l ?c ?k ?b⟩
      (case a => k_is); (case l => k_is); (case c => k_is); (case k => k_is)
      case b => exact fun _ _ _ _ _ _ us hl => match us, hl with | [_, _, _, _], _ => rfl
    obtain ⟨f_5, e_5, g_need_rows⟩ : ∃ f fd, Lv.Got _ mg "need_rows" Lv.sNeedRows ["many", "least", "roof", "one", "other"] f fd := by
      refine' ⟨_, _, Lv.got_mk KX G ?a ?l ?c ?k ?b⟩
      (case a => k_is); (case l => k_is); (case c => k_is); (case k => k_is)
      case b => exact fun _ _ _ _ _ _ us hl => match us, hl with | [_, _, _, _, _], _ => rfl
    obtain ⟨f_6, e_6, g_fits⟩ : ∃ f fd, Lv.Got _ mg "fits" Lv.sFits ["low", "high", "from_low", "from_high"] f fd := by
      refine' ⟨_, _, Lv.got_mk KX G ?a ?l ?c ?k ?b⟩
      (case a => k_is); (case l => k_is); (case c => k_is); (case k => k_is)
      case b => exact fun _ _ _ _ _ _ us hl => match us, hl with | [_, _, _, _], _ => rfl
    obtain ⟨f_7, e_7, g_is_soft⟩ : ∃ f fd, Lv.Got _ mg "is_soft" Lv.sIsSoft ["low", "high"] f fd := by
      refine' ⟨_, _, Lv.got_mk KX G ?a ?l ?c ?k ?b⟩
      (case a => k_is); (case l => k_is); (case c => k_is); (case k => k_is)
      case b => exact fun _ _ _ _ _ _ us hl => match us, hl with | [_, _], _ => rfl
    obtain ⟨f_8, e_8, g_steps_in⟩ : ∃ f fd, Lv.Got _ mg "steps_in" Lv.sStepsIn ["one", "other"] f fd := by
      refine' ⟨_, _, Lv.got_mk KX G ?a ?l ?c ?k ?b⟩
      (case a => k_is); (case l => k_is); (case c => k_is); (case k => k_is)
      case b => exact fun _ _ _ _ _ _ us hl => match us, hl with | [_, _], _ => rfl
    obtain ⟨f_9, e_9, g_edges_of⟩ : ∃ f fd, Lv.Got _ mg "edges_of" Lv.sEdgesOf ["many", "is_ring"] f fd := by
      refine' ⟨_, _, Lv.got_mk KX G ?a ?l ?c ?k ?b⟩
      (case a => k_is); (case l => k_is); (case c => k_is); (case k => k_is)
      case b => exact fun _ _ _ _ _ _ us hl => match us, hl with | [_, _], _ => rfl
    obtain ⟨f_10, e_10, g_comes_on⟩ : ∃ f fd, Lv.Got _ mg "comes_on" Lv.sComesOn ["edges", "one", "other"] f fd := by
      refine' ⟨_, _, Lv.got_mk KX G ?a ?l ?c ?k ?b⟩
      (case a => k_is); (case l => k_is); (case c => k_is); (case k => k_is)
      case b => exact fun _ _ _ _ _ _ us hl => match us, hl with | [_, _, _], _ => rfl
    obtain ⟨f_11, e_11, g_row_fewest⟩ : ∃ f fd, Lv.Got _ mg "row_fewest" Lv.sRowFewest ["many", "roof", "one", "other"] f fd := by
      refine' ⟨_, _, Lv.got_mk KX G ?a ?l ?c ?k ?b⟩
      (case a => k_is); (case l => k_is); (case c => k_is); (case k => k_is)
      case b => exact fun _ _ _ _ _ _ us hl => match us, hl with | [_, _, _, _], _ => rfl
    obtain ⟨f_12, e_12, g_ring_fewest⟩ : ∃ f fd, Lv.Got _ mg "ring_fewest" Lv.sRingFewest ["many", "roof", "one", "other"] f fd := by
      refine' ⟨_, _, Lv.got_mk KX G ?a ?l ?c ?k ?b⟩
      (case a => k_is); (case l => k_is); (case c => k_is); (case k => k_is)
      case b => exact fun _ _ _ _ _ _ us hl => match us, hl with | [_, _, _, _], _ => rfl
    obtain ⟨f_13, e_13, g_grown⟩ : ∃ f fd, Lv.Got _ mg "grown" Lv.sGrown ["rows", "roof", "lets"] f fd := by
      refine' ⟨_, _, Lv.got_mk KX G ?a ?l ?c ?k ?b⟩
      (case a => k_is); (case l => k_is); (case c => k_is); (case k => k_is)
      case b => exact fun _ _ _ _ _ _ us hl => match us, hl with | [_, _, _], _ => rfl
    obtain ⟨f_14, e_14, g_row_gentle_count⟩ : ∃ f fd, Lv.Got _ mg "row_gentle_count" Lv.sRowGentle ["many", "roof"] f fd := by
      refine' ⟨_, _, Lv.got_mk KX G ?a ?l ?c ?k ?b⟩
      (case a => k_is); (case l => k_is); (case c => k_is); (case k => k_is)
      case b => exact fun _ _ _ _ _ _ us hl => match us, hl with | [_, _], _ => rfl
    obtain ⟨f_15, e_15, g_ring_gentle_count⟩ : ∃ f fd, Lv.Got _ mg "ring_gentle_count" Lv.sRingGentle ["many", "roof"] f fd := by
      refine' ⟨_, _, Lv.got_mk KX G ?a ?l ?c ?k ?b⟩
      (case a => k_is); (case l => k_is); (case c => k_is); (case k => k_is)
      case b => exact fun _ _ _ _ _ _ us hl => match us, hl with | [_, _], _ => rfl
    obtain ⟨f_16, e_16, c_16, g_row_come_count, hc_16, C_16⟩ : ∃ f fd c, Lv.Got _ mg "row_come_count" Lv.sRowCome ["many", "roof", "heights"] f fd ∧ fd.code = .ref c ∧ PySem.W.CodeHd h c 164 := by
      refine' ⟨_, _, _, Lv.got_mk KX G ?a ?l ?c ?k ?b, rfl, PySem.W.codeHd_of_K KX ?d⟩
      (case a => k_is); (case l => k_is); (case c => k_is); (case k => k_is); (case d => kernel_rfl)
      case b => exact fun _ _ _ _ _ _ us hl => match us, hl with | [_, _, _], _ => rfl
    obtain ⟨f_17, e_17, c_17, g_ring_come_count, hc_17, C_17⟩ : ∃ f fd c, Lv.Got _ mg "ring_come_count" Lv.sRingCome ["many", "roof", "heights"] f fd ∧ fd.code = .ref c ∧ PySem.W.CodeHd h c 169 := by
      refine' ⟨_, _, _, Lv.got_mk KX G ?a ?l ?c ?k ?b, rfl, PySem.W.codeHd_of_K KX ?d⟩
      (case a => k_is); (case l => k_is); (case c => k_is); (case k => k_is); (case d => kernel_rfl)
      case b => exact fun _ _ _ _ _ _ us hl => match us, hl with | [_, _, _], _ => rfl
    obtain ⟨f_18, e_18, g_law_taken⟩ : ∃ f fd, Lv.Got _ mg "_law_taken" Lv.sTaken ["_law_row_here", "_law_many_here"] f fd := by
      refine' ⟨_, _, Lv.got_mk KX G ?a ?l ?c ?k ?b⟩
      (case a => k_is); (case l => k_is); (case c => k_is); (case k => k_is)
      case b => exact fun _ _ _ _ _ _ us hl => match us, hl with | [_, _], _ => rfl
    obtain ⟨f_19, e_19, g_law_many⟩ : ∃ f fd, Lv.Got _ mg "_law_many" Lv.sMany ["_law_roof", "_law_many_here"] f fd := by
      refine' ⟨_, _, Lv.got_mk KX G ?a ?l ?c ?k ?b⟩
      (case a => k_is); (case l => k_is); (case c => k_is); (case k => k_is)
      case b => exact fun _ _ _ _ _ _ us hl => match us, hl with | [_, _], _ => rfl
    obtain ⟨f_20, e_20, g_law_row⟩ : ∃ f fd, Lv.Got _ mg "_law_row" Lv.sRow ["_law_many_here", "_law_is_ring"] f fd := by
      refine' ⟨_, _, Lv.got_mk KX G ?a ?l ?c ?k ?b⟩
      (case a => k_is); (case l => k_is); (case c => k_is); (case k => k_is)
      case b => exact fun _ _ _ _ _ _ us hl => match us, hl with | [_, _], _ => rfl
    obtain ⟨f_21, e_21, g_law_step⟩ : ∃ f fd, Lv.Got _ mg "_law_step" Lv.sStep ["_law_heights_here", "_law_deed"] f fd := by
      refine' ⟨_, _, Lv.got_mk KX G ?a ?l ?c ?k ?b⟩
      (case a => k_is); (case l => k_is); (case c => k_is); (case k => k_is)
      case b => exact fun _ _ _ _ _ _ us hl => match us, hl with | [_, _], _ => rfl
    obtain ⟨f_22, e_22, g_law_beside⟩ : ∃ f fd, Lv.Got _ mg "_law_beside" Lv.sBeside ["_law_web", "_law_place"] f fd := by
      refine' ⟨_, _, Lv.got_mk KX G ?a ?l ?c ?k ?b⟩
      (case a => k_is); (case l => k_is); (case c => k_is); (case k => k_is)
      case b => exact fun _ _ _ _ _ _ us hl => match us, hl with | [_, _], _ => rfl
    obtain ⟨f_23, e_23, g_law_deeds⟩ : ∃ f fd, Lv.Got _ mg "_law_deeds" Lv.sDeeds ["_law_web", "_law_roof", "_law_heights_here"] f fd := by
      refine' ⟨_, _, Lv.got_mk KX G ?a ?l ?c ?k ?b⟩
      (case a => k_is); (case l => k_is); (case c => k_is); (case k => k_is)
      case b => exact fun _ _ _ _ _ _ us hl => match us, hl with | [_, _, _], _ => rfl
    obtain ⟨f_24, e_24, g_law_heights⟩ : ∃ f fd, Lv.Got _ mg "_law_heights" Lv.sHeights ["_law_row_here", "_law_many_here", "_law_roof"] f fd := by
      refine' ⟨_, _, Lv.got_mk KX G ?a ?l ?c ?k ?b⟩
      (case a => k_is); (case l => k_is); (case c => k_is); (case k => k_is)
      case b => exact fun _ _ _ _ _ _ us hl => match us, hl with | [_, _, _], _ => rfl
    obtain ⟨f_25, e_25, g_law_after⟩ : ∃ f fd, Lv.Got _ mg "_law_after" Lv.sAfter ["_law_web", "_law_roof", "_law_heights_here"] f fd := by
      refine' ⟨_, _, Lv.got_mk KX G ?a ?l ?c ?k ?b⟩
      (case a => k_is); (case l => k_is); (case c => k_is); (case k => k_is)
      case b => exact fun _ _ _ _ _ _ us hl => match us, hl with | [_, _, _], _ => rfl
    obtain ⟨f_26, e_26, g_law_pick⟩ : ∃ f fd, Lv.Got _ mg "_law_pick" Lv.sPick ["_law_row_here", "_law_things"] f fd := by
      refine' ⟨_, _, Lv.got_mk KX G ?a ?l ?c ?k ?b⟩
      (case a => k_is); (case l => k_is); (case c => k_is); (case k => k_is)
      case b => exact fun _ _ _ _ _ _ us hl => match us, hl with | [_, _], _ => rfl
    obtain ⟨f_27, e_27, g_law_there⟩ : ∃ f fd, Lv.Got _ mg "_law_there" Lv.sThere ["_law_row_here", "_law_web", "_law_roof", "_law_heights_here"] f fd := by
      refine' ⟨_, _, Lv.got_mk KX G ?a ?l ?c ?k ?b⟩
      (case a => k_is); (case l => k_is); (case c => k_is); (case k => k_is)
      case b => exact fun _ _ _ _ _ _ us hl => match us, hl with | [_, _, _, _], _ => rfl
    obtain ⟨f_28, e_28, g_law_alike⟩ : ∃ f fd, Lv.Got _ mg "_law_alike" Lv.sAlike ["_law_found", "_law_due"] f fd := by
      refine' ⟨_, _, Lv.got_mk KX G ?a ?l ?c ?k ?b⟩
      (case a => k_is); (case l => k_is); (case c => k_is); (case k => k_is)
      case b => exact fun _ _ _ _ _ _ us hl => match us, hl with | [_, _], _ => rfl
    obtain ⟨f_29, e_29, g_law_every⟩ : ∃ f fd, Lv.Got _ mg "_law_every" Lv.sEvery ["_law_many_here", "_law_roof"] f fd := by
      refine' ⟨_, _, Lv.got_mk KX G ?a ?l ?c ?k ?b⟩
      (case a => k_is); (case l => k_is); (case c => k_is); (case k => k_is)
      case b => exact fun _ _ _ _ _ _ us hl => match us, hl with | [_, _], _ => rfl
    obtain ⟨f_30, e_30, g_law_steep⟩ : ∃ f fd, Lv.Got _ mg "_law_steep" Lv.sSteep ["_law_web", "_law_heights_here"] f fd := by
      refine' ⟨_, _, Lv.got_mk KX G ?a ?l ?c ?k ?b⟩
      (case a => k_is); (case l => k_is); (case c => k_is); (case k => k_is)
      case b => exact fun _ _ _ _ _ _ us hl => match us, hl with | [_, _], _ => rfl
    obtain ⟨f_31, e_31, g_law_from⟩ : ∃ f fd, Lv.Got _ mg "_law_from" Lv.sFrom ["_law_web", "_law_roof", "_law_heights_here"] f fd := by
      refine' ⟨_, _, Lv.got_mk KX G ?a ?l ?c ?k ?b⟩
      (case a => k_is); (case l => k_is); (case c => k_is); (case k => k_is)
      case b => exact fun _ _ _ _ _ _ us hl => match us, hl with | [_, _, _], _ => rfl
    obtain ⟨f_32, e_32, g_law, hbL⟩ : ∃ f fd, Lv.Got _ mg "law" Lv.sLaw ["_law_script"] f fd ∧ ∀ (s : Shared) (u : Value), BindsTo s fd ⟨[u], []⟩ [("_law_script", u)] := by
      refine' ⟨_, _, Lv.got_mk KX G ?a ?l ?c ?k ?b, fun s v => .of_eq rfl⟩
      (case a => k_is); (case l => k_is); (case c => k_is); (case k => k_is)
      case b => exact fun _ _ _ _ _ _ us hl => match us, hl with | [_], _ => rfl
    have y1 : ∃ t, mg "MOST_ROOF" = some (.int 9 t) := by
      have z : ∃ u, mg "MOST_ROOF" = some u ∧ ∃ t, u = .int 9 t := by
        refine' ⟨_, PySem.W.mg_of KX G ?y, ?z⟩
        case y => k_is
        case z => exact ⟨_, rfl⟩
      obtain ⟨u, e, t, rfl⟩ := z
      exact ⟨t, e⟩
    have y2 : ∃ t, mg "MOST_ROW" = some (.int 40 t) := by
      have z : ∃ u, mg "MOST_ROW" = some u ∧ ∃ t, u = .int 40 t := by
        refine' ⟨_, PySem.W.mg_of KX G ?y, ?z⟩
        case y => k_is
        case z => exact ⟨_, rfl⟩
      obtain ⟨u, e, t, rfl⟩ := z
      exact ⟨t, e⟩
    have T : Lv.Txt mg := by
      refine' ⟨PySem.W.mg_none_of KX G ?z0, PySem.W.mg_none_of KX G ?z1, PySem.W.mg_none_of KX G ?z2, PySem.W.mg_none_of KX G ?z3, PySem.W.mg_none_of KX G ?z4, PySem.W.mg_none_of KX G ?z5, PySem.W.mg_none_of KX G ?z6, PySem.W.mg_none_of KX G ?z7, PySem.W.mg_none_of KX G ?z8, PySem.W.mg_none_of KX G ?z9, PySem.W.mg_none_of KX G ?z10, PySem.W.mg_none_of KX G ?z11, PySem.W.mg_none_of KX G ?z12, PySem.W.mg_none_of KX G ?z13, PySem.W.mg_none_of KX G ?z14, y1, y2⟩
      (case z0 => k_is); (case z1 => k_is); (case z2 => k_is); (case z3 => k_is); (case z4 => k_is); (case z5 => k_is); (case z6 => k_is); (case z7 => k_is); (case z8 => k_is); (case z9 => k_is); (case z10 => k_is); (case z11 => k_is); (case z12 => k_is); (case z13 => k_is); (case z14 => k_is)
    exact Lv.law_at hmg T g_is_in g_need_roof g_need_many g_need_heights g_need_row g_need_rows g_fits g_is_soft g_steps_in g_edges_of g_comes_on g_row_fewest g_ring_fewest g_grown g_row_gentle_count g_ring_gentle_count g_row_come_count g_ring_come_count g_law_taken g_law_many g_law_row g_law_step g_law_beside g_law_deeds g_law_heights g_law_after g_law_pick g_law_there g_law_alike g_law_every g_law_steep g_law_from g_law hbL hc_16 hc_17 (by decide) (PySem.W.km_tabs_of Y 164 (by decide)) (PySem.W.km_tabs_of Y 169 (by decide)) (by kernel_rfl) (by kernel_rfl) C_16 C_17

