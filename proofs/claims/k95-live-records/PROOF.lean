import PyProof.Rows.All
import HandS.ClsMeth
import HandS.Deep
import HandS.Defaults
import HandS.DictComp
import HandS.EndBits
import HandS.EndTab
import HandS.Evl
import HandS.ForMost
import HandS.Head0
import HandS.Head1
import HandS.Head2
import HandS.HeadEnd
import HandS.HeadHook2
import HandS.HeadHook4
import HandS.IsInst
import HandS.Lambda
import HandS.MakeKwOnly
import HandS.OwnEq
import HandS.Property
import HandS.SetFor
import HandS.SortKw
import HandS.Star
import HandS.Steps
import HandS.Style
import HandS.TryOnly
import HandS.TupAny
import HandS.TupSets
import HandS.Walk
import HandS.Words
import HandS.Zip
import KE.GoesEnum
import KE.GoesMore
import KE.KSortKey
import KE.KStateDown
import KE.SortData
import KE.SortKeyHeap
import Lean
import OpenK.AllK
import PyProof.DictDisplay
import PyProof.ReprRoads
import PyProof.Rows.TupDisplay
import Wide.All
import Wide.FinOn
import PySem.Challenge.RW_sparewright_k95_live_records_and_librari
section
set_option autoImplicit false
set_option linter.all false
namespace Sw
universe u
section
variable {α : Type} [DecidableEq α]
abbrev Kx (α : Type) := Sum Int α
/-- a term: names, and at the end a name or an unknown -/
def Tm (p : List (Kx α)) : Prop := p ≠ [] ∧ ∀ k ∈ p.dropLast, ∃ s, k = Sum.inr s
/-- a term with rows of names for its unknown -/
def ap (θ : Int → List α) (p : List (Kx α)) : List (Kx α) := match p.getLast? with
  | some (.inl i) => p.dropLast ++ (θ i).map Sum.inr
  | _ => p
theorem ap_u (θ : Int → List α) (pre : List (Kx α)) (i : Int) : ap θ (pre ++ [.inl i]) = pre ++ (θ i).map Sum.inr := by
  unfold ap
  simp
theorem ap_b (θ : Int → List α) (pre : List (Kx α)) (s : α) : ap θ (pre ++ [.inr s]) = pre ++ [.inr s] := by
  unfold ap
  simp
theorem snoc_of {β : Type} {p : List β} (h : p ≠ []) : ∃ pre k, p = pre ++ [k] := ⟨p.dropLast, p.getLast h, (List.dropLast_concat_getLast h).symm⟩
theorem ap_app (θ : Int → List α) (pre : List (Kx α)) {p : List (Kx α)} (h : p ≠ []) : ap θ (pre ++ p) = pre ++ ap θ p := by
  obtain ⟨q, k, rfl⟩ := snoc_of h
  rw [← List.append_assoc]
  cases k with
  | inl i => rw [ap_u, ap_u, List.append_assoc]
  | inr s => rw [ap_b, ap_b, List.append_assoc]
theorem ap_ne (θ : Int → List α) (hθ : ∀ i, θ i ≠ []) {p : List (Kx α)} (h : p ≠ []) : ap θ p ≠ [] := by
  obtain ⟨q, k, rfl⟩ := snoc_of h
  cases k with
  | inl i =>
    rw [ap_u]
    intro e
    have := (List.append_eq_nil_iff.mp e).2
    exact hθ i (List.map_eq_nil_iff.mp this)
  | inr s =>
    rw [ap_b]
    exact h
/-- bindings, in the order in which they were made -/
abbrev Bx (α : Type) := List (Int × List (Kx α))
/-- the last part -/
def tl (p : List (Kx α)) : Option (Kx α) := p.getLast?
def Sol (θ : Int → List α) (b : Bx α) : Prop := ∀ p ∈ b, (θ p.1).map Sum.inr = ap θ p.2
/-- no binding's last part is bound by itself or ahead of it; no unknown is bound twice -/
def Wf : Bx α → Prop
  | [] => True
  | (v, r) :: b => Tm r ∧ (∀ p ∈ b, p.1 ≠ v) ∧ tl r ≠ some (.inl v) ∧ (∀ p ∈ b, tl p.2 ≠ some (.inl v)) ∧ Wf b
theorem Wf.tm : ∀ {b : Bx α}, Wf b → ∀ p ∈ b, Tm p.2
  | [], _, p, hp => by simp at hp
  | (v, r) :: b, ⟨h1, _, _, _, h2⟩, p, hp => by
    rcases List.mem_cons.mp hp with e | e
    · subst e
      exact h1
    · exact Wf.tm h2 p e
theorem Wf.snoc {v : Int} {r : List (Kx α)} : ∀ {b : Bx α}, Wf b → Tm r → (∀ p ∈ b, p.1 ≠ v) → tl r ≠ some (.inl v) → (∀ p ∈ b, tl r ≠ some (.inl p.1)) → Wf (b ++ [(v, r)])
  | [], _, hr, _, h2, _ => ⟨hr, by simp, h2, by simp, trivial⟩
  | (w, q) :: b, ⟨g1, g2, g3, g4, g5⟩, hr, h1, h2, h3 => by
    refine ⟨g1, fun p hp => ?_, g3, fun p hp => ?_, Wf.snoc g5 hr (fun p hp => h1 p (List.mem_cons_of_mem _ hp)) h2 fun p hp => h3 p (List.mem_cons_of_mem _ hp)⟩
    · rcases List.mem_append.mp hp with e | e
      · exact g2 p e
      · have e2 : p = (v, r) := by simpa using e
        subst e2
        exact fun z => h1 (w, q) (by simp) z.symm
    · rcases List.mem_append.mp hp with e | e
      · exact g4 p e
      · have e2 : p = (v, r) := by simpa using e
        subst e2
        exact h3 (w, q) (by simp)
/-- what ap tells hangs on the last part alone -/
theorem ap_congr {θ θ' : Int → List α} {p : List (Kx α)} (h : ∀ i, tl p = some (.inl i) → θ i = θ' i) : ap θ p = ap θ' p := by
  cases p with
  | nil => rfl
  | cons a l =>
    obtain ⟨q, k, e⟩ := snoc_of (show a :: l ≠ [] by simp)
    rw [e] at h ⊢
    cases k with
    | inl i => rw [ap_u, ap_u, h i (by simp [tl])]
    | inr s => rw [ap_b, ap_b]
/-- names of a row without unknowns -/
def nm : Kx α → α → α
  | .inr s, _ => s
  | .inl _, d => d
/-- there is a solution -/
theorem Wf.sol (d : α) : ∀ {b : Bx α}, Wf b → ∃ θ : Int → List α, (∀ i, θ i ≠ []) ∧ Sol θ b
  | [], _ => ⟨fun _ => [d], fun _ => by simp, fun p hp => by simp at hp⟩
  | (v, r) :: b, ⟨h1, h2, h3, h4, h5⟩ => by
    obtain ⟨θ, n, s⟩ := Wf.sol d h5
    -- all of ap θ r are names
    have hn : ∀ k ∈ ap θ r, ∃ x, k = Sum.inr x := by
      obtain ⟨q, k, e⟩ := snoc_of h1.1
      have hq := h1.2
      rw [e] at hq ⊢
      rw [List.dropLast_concat] at hq
      cases k with
      | inl i =>
        rw [ap_u]
        intro x hx
        rcases List.mem_append.mp hx with z | z
        · exact hq x z
        · obtain ⟨y, _, e⟩ := List.mem_map.mp z
          exact ⟨y, e.symm⟩
      | inr t =>
        rw [ap_b]
        intro x hx
        rcases List.mem_append.mp hx with z | z
        · exact hq x z
        · exact ⟨t, by simpa using z⟩
    have em : ((ap θ r).map fun k => nm k d).map Sum.inr = ap θ r := by
      rw [List.map_map]
      conv => rhs; rw [← List.map_id (ap θ r)]
      refine List.map_congr_left fun k hk => ?_
      obtain ⟨x, rfl⟩ := hn k hk
      rfl
    let θ' : Int → List α := fun i => if i = v then (ap θ r).map fun k => nm k d else θ i
    have same : ∀ p : List (Kx α), tl p ≠ some (.inl v) → ap θ' p = ap θ p := fun p hp => ap_congr fun i hi => by
      have : i ≠ v := fun e => hp (by rw [hi, e])
      show (if i = v then _ else θ i) = θ i
      rw [if_neg this]
    refine ⟨θ', fun i => ?_, fun p hp => ?_⟩
    · show (if i = v then _ else θ i) ≠ []
      by_cases e : i = v
      · rw [if_pos e]
        intro z
        exact ap_ne θ n h1.1 (List.map_eq_nil_iff.mp z)
      · rw [if_neg e]
        exact n i
    · rcases List.mem_cons.mp hp with e | e
      · subst e
        show ((if v = v then _ else θ v).map Sum.inr) = ap θ' r
        rw [if_pos rfl, em, same r h3]
      · have hv := h2 p e
        show ((if p.1 = v then _ else θ p.1).map Sum.inr) = ap θ' p.2
        rw [if_neg hv, same p.2 (h4 p e)]
        exact s p e

/-! ### resolving -/
def lk (b : Bx α) (k : Kx α) : Option (List (Kx α)) := match k with
  | .inl i => (b.find? fun p => decide (p.1 = i)).map (·.2)
  | .inr _ => none
theorem lk_mem {b : Bx α} {i : Int} {r : List (Kx α)} (h : lk b (.inl i) = some r) : (i, r) ∈ b := by
  unfold lk at h
  simp only [Option.map_eq_some_iff] at h
  obtain ⟨p, hp, e⟩ := h
  have h1 := List.find?_some hp
  have h2 := List.mem_of_find?_eq_some hp
  have h3 : p.1 = i := by simpa using h1
  subst h3
  subst e
  exact h2
theorem lk_none {b : Bx α} {i : Int} (h : lk b (.inl i) = none) : ∀ p ∈ b, p.1 ≠ i := by
  unfold lk at h
  simp only [Option.map_eq_none_iff, List.find?_eq_none, decide_eq_true_eq] at h
  exact h
/-- how far a last part is from the end of the bindings -/
def rk : Bx α → Kx α → Nat
  | [], _ => 0
  | (v, _) :: b, k => if k = .inl v then b.length + 1 else rk b k
theorem rk_le : ∀ (b : Bx α) (k : Kx α), rk b k ≤ b.length
  | [], _ => Nat.le_refl _
  | (v, _) :: b, k => by
    unfold rk
    split
    · simp
    · have := rk_le b k
      simp only [List.length_cons]
      omega
theorem rk_lt : ∀ {b : Bx α} {i : Int} {r : List (Kx α)} {k : Kx α}, Wf b → (i, r) ∈ b → tl r = some k → rk b k < rk b (.inl i)
  | [], _, _, _, _, h, _ => by simp at h
  | (v, q) :: b, i, r, k, ⟨h1, h2, h3, h4, h5⟩, hm, hk => by
    rcases List.mem_cons.mp hm with e | e
    · injection e with e1 e2
      subst e1
      subst e2
      have : k ≠ .inl i := fun z => h3 (by rw [hk, z])
      unfold rk
      rw [if_neg this, if_pos rfl]
      have := rk_le b k
      omega
    · have hv : i ≠ v := h2 (i, r) e
      have hk2 : k ≠ .inl v := fun z => h4 (i, r) e (by rw [hk, z])
      unfold rk
      rw [if_neg hk2, if_neg (fun z => hv (Sum.inl.inj z))]
      exact rk_lt h5 e hk
theorem Tm.app {pre : List (Kx α)} {k : Kx α} {r : List (Kx α)} (h : Tm (pre ++ [k])) (hr : Tm r) : Tm (pre ++ r) := by
  refine ⟨fun z => hr.1 (List.append_eq_nil_iff.mp z).2, fun x hx => ?_⟩
  have h2 := h.2
  rw [List.dropLast_concat] at h2
  rw [List.dropLast_append_of_ne_nil hr.1] at hx
  rcases List.mem_append.mp hx with z | z
  · exact h2 x z
  · exact hr.2 x z
/-! ### what is left behind a common beginning -/
theorem ap_drop (θ : Int → List α) {p : List (Kx α)} {m : Nat} (h : m < p.length) : ap θ p = p.take m ++ ap θ (p.drop m) := by
  have hd : p.drop m ≠ [] := by
    intro e
    have := congrArg List.length e
    rw [List.length_drop] at this
    simp at this
    omega
  have e := ap_app θ (p.take m) hd
  rwa [List.take_append_drop] at e
theorem Tm.drop {p : List (Kx α)} (h : Tm p) {m : Nat} (hm : m < p.length) : Tm (p.drop m) := by
  refine ⟨fun e => ?_, fun k hk => ?_⟩
  · have := congrArg List.length e
    rw [List.length_drop] at this
    simp at this
    omega
  · refine h.2 k ?_
    rw [List.dropLast_eq_take, List.length_drop] at hk
    rw [List.dropLast_eq_take]
    obtain ⟨i, hi, e⟩ := List.getElem_of_mem hk
    rw [List.length_take, List.length_drop] at hi
    have e2 : (p.take (p.length - 1))[m + i]? = some k := by
      rw [List.getElem?_take, if_pos (by omega)]
      rw [List.getElem_take, List.getElem_drop] at e
      rw [← e]
      exact List.getElem?_eq_getElem _
    exact List.mem_of_getElem? e2
theorem tl_drop {p : List (Kx α)} {m : Nat} (hm : m < p.length) : tl (p.drop m) = tl p := by
  unfold tl
  rw [List.getLast?_drop, if_neg (by omega)]
/-- the beginnings are alike up to m, and then either one is at its last part, or they part -/
structure Df (p q : List (Kx α)) (m : Nat) : Prop where
  lp : m < p.length
  lq : m < q.length
  eq : p.take m = q.take m
  stop : m + 1 = p.length ∨ m + 1 = q.length ∨ p[m]? ≠ q[m]?
theorem Df.ap {p q : List (Kx α)} {m : Nat} (d : Df p q m) (θ : Int → List α) : ap θ p = ap θ q ↔ Sw.ap θ (p.drop m) = Sw.ap θ (q.drop m) := by
  rw [ap_drop θ d.lp, ap_drop θ d.lq, d.eq]
  exact ⟨fun h => List.append_cancel_left h, fun h => by rw [h]⟩
/-- no solution where neither is an unknown alone and they are unlike -/
theorem Df.no {p q : List (Kx α)} {m : Nat} (d : Df p q m) (hp : Tm p) (hq : Tm q) (ne : p.drop m ≠ q.drop m) (np : ∀ i, p.drop m ≠ [.inl i]) (nq : ∀ i, q.drop m ≠ [.inl i]) (θ : Int → List α) (hθ : ∀ i, θ i ≠ []) : Sw.ap θ (p.drop m) ≠ Sw.ap θ (q.drop m) := by
  have tp := hp.drop d.lp
  have tq := hq.drop d.lq
  have lp : (p.drop m).length = p.length - m := List.length_drop
  have lq : (q.drop m).length = q.length - m := List.length_drop
  have h0 : (p.drop m)[0]? = p[m]? := by simp
  have h0' : (q.drop m)[0]? = q[m]? := by simp
  have stop := d.stop
  rw [← h0, ← h0'] at stop
  have d1 := d.lp
  have d2 := d.lq
  generalize p.drop m = a at *
  generalize q.drop m = b at *
  -- the number of parts does not fall
  have len : ∀ {x : List (Kx α)}, x ≠ [] → x.length ≤ (Sw.ap θ x).length := fun {x} hx => by
    obtain ⟨y, k, rfl⟩ := snoc_of hx
    cases k with
    | inl i =>
      rw [ap_u]
      have : 0 < (θ i).length := List.length_pos_iff.mpr (hθ i)
      simp
      omega
    | inr s => rw [ap_b]; exact Nat.le_refl _
  -- one that has one part is a name
  have one : ∀ {x : List (Kx α)}, x.length = 1 → (∀ i, x ≠ [.inl i]) → ∃ s, x = [.inr s] ∧ Sw.ap θ x = [.inr s] := fun {x} hx hn => by
    match x, hx with
    | [.inl i], _ => exact absurd rfl (hn i)
    | [.inr s], _ => exact ⟨s, rfl, ap_b θ [] s⟩
  -- the first of more than one part is a name that stays
  have first : ∀ {x : List (Kx α)}, Tm x → 1 < x.length → (Sw.ap θ x)[0]? = x[0]? := fun {x} hx hl => by
    obtain ⟨y, k, rfl⟩ := snoc_of hx.1
    have hy : 0 < y.length := by simp at hl; omega
    cases k with
    | inl i => rw [ap_u, List.getElem?_append_left hy, List.getElem?_append_left hy]
    | inr s => rw [ap_b]
  intro e
  rcases Nat.lt_or_ge 1 a.length with la | la
  · rcases Nat.lt_or_ge 1 b.length with lb | lb
    · rcases stop with z | z | z
      · omega
      · omega
      · have h1 := first tp la
        have h2 := first tq lb
        rw [e] at h1
        exact z (h1.symm.trans h2)
    · have hb : b.length = 1 := by omega
      obtain ⟨s, e1, e2⟩ := one hb nq
      have := len tp.1
      rw [e, e2] at this
      simp at this
      omega
  · have ha : a.length = 1 := by omega
    obtain ⟨s, e1, e2⟩ := one ha np
    rcases Nat.lt_or_ge 1 b.length with lb | lb
    · have := len tq.1
      rw [← e, e2] at this
      simp at this
      omega
    · have hb : b.length = 1 := by omega
      obtain ⟨t, e3, e4⟩ := one hb nq
      rw [e2, e4] at e
      exact ne (by rw [e1, e3, e])
/-- an unknown is no row of names and itself behind -/
theorem no_loop {θ : Int → List α} {q : List (Kx α)} {i : Int} (h : tl q = some (.inl i)) (ne : q ≠ [.inl i]) : ap θ [.inl i] ≠ ap θ q := by
  have hq : q ≠ [] := fun e => by rw [e] at h; simp [tl] at h
  obtain ⟨y, k, rfl⟩ := snoc_of hq
  have hk : k = .inl i := by simpa [tl] using h
  subst hk
  have hy : y ≠ [] := fun e => ne (by rw [e]; rfl)
  have e1 : ap θ [.inl i] = (θ i).map Sum.inr := ap_u θ [] i
  rw [e1, ap_u]
  intro e
  have := congrArg List.length e
  have hy2 : 0 < y.length := List.length_pos_iff.mpr hy
  rw [List.length_append, List.length_map] at this
  omega
theorem sol_snoc {θ : Int → List α} {b : Bx α} {v : Int} {r : List (Kx α)} : Sol θ (b ++ [(v, r)]) ↔ Sol θ b ∧ ap θ [.inl v] = ap θ r := by
  have e1 : ap θ [.inl v] = (θ v).map Sum.inr := ap_u θ [] v
  rw [e1]
  constructor
  · intro h
    exact ⟨fun p hp => h p (List.mem_append_left _ hp), h (v, r) (by simp)⟩
  · rintro ⟨h1, h2⟩ p hp
    rcases List.mem_append.mp hp with e | e
    · exact h1 p e
    · have e2 : p = (v, r) := by simpa using e
      subst e2
      exact h2
end
end Sw
end

section
set_option Elab.async false
set_option autoImplicit false
set_option linter.all false
set_option maxRecDepth 100000
set_option maxHeartbeats 4000000
namespace Sw
open PySem PySem.Spec PyProof.Rows L2

/-! ### data -/
inductive D where
  | non | bl (b : Bool) | int (i : Int) | str (x : Str) | tup (xs : List D) | lst (xs : List D)
  | dct (kvs : List (Key × D)) | ins (C : Addr) (fs : List (Str × D)) | adr (a : Addr) | ty (n : String) | dk | any
/-- an object that may be written -/
def Wr : HO → Prop
  | .lst _ => True
  | .dK _ => True
  | .dT _ => True
  | .ins _ _ _ => True
  | _ => False
/-- not a table of code objects: tables grow -/
def nt : HO → Prop
  | .tbl _ => False
  | _ => True
/-- what the layer leans on: the program, the world, the written part; what a deck is -/
structure Gx where
  P : Program
  w : World
  K : PySem.W.Frag
  dk : Hp → Addr → Prop
  tb : Hp → Prop
  tbx : ∀ H H', Evl.Ex H H' → tb H → tb H'
  tbw : ∀ H a o o', H a = some o → Wr o → tb H → tb (upd H a o')
  dke : ∀ H H' a, (∀ b φ, H b = some (.ext φ) → H' b = some (.ext φ)) → dk H a → dk H' a
/-- all but the tables is kept; what is told of the tables holds on -/
structure Ex (G : Gx) (H H' : Hp) : Prop where
  k : ∀ b o, H b = some o → nt o → H' b = some o
  s : ∀ b, H' b = none → H b = none
  t : G.tb H → G.tb H'
section
variable {G : Gx} {H H' H2 : Hp}
theorem Ex.at (e : Ex G H H') {b : Addr} {o : HO} (h : H b = some o) (n : nt o := by trivial) : H' b = some o := e.k b o h n
theorem Ex.refl (H : Hp) : Ex G H H := ⟨fun _ _ h _ => h, fun _ h => h, fun h => h⟩
theorem Ex.trans (a : Ex G H H') (b : Ex G H' H2) : Ex G H H2 := ⟨fun c o h n => b.k c o (a.k c o h n) n, fun c h => a.s c (b.s c h), fun h => b.t (a.t h)⟩
theorem Ex.old (e : Evl.Ex H H') : Ex G H H' := ⟨fun b o h _ => e b o h, fun b h => Evl.fresh_back e h, G.tbx _ _ e⟩
/-- an object that is newer is written -/
theorem Ex.wr (e : Ex G H H') {p : Addr} {o o' : HO} (n : H p = none) (h : H' p = some o) (w : Wr o) : Ex G H (upd H' p o') := by
  refine ⟨fun b u hb nu => ?_, fun b hb => ?_, fun t => G.tbw _ _ _ _ h w (e.t t)⟩
  · by_cases q : b = p
    · subst q
      rw [n] at hb
      cases hb
    · rw [upd_ne q]
      exact e.k b u hb nu
  · by_cases q : b = p
    · subst q
      exact n
    · rw [upd_ne q] at hb
      exact e.s b hb
theorem Ex.new {p : Addr} {o : HO} (h : H p = none) : Ex G H (upd H p o) := .old (Evl.Ex.new h)
end
section
variable (G : Gx) (B : Addr → Prop) (H : Hp)
mutual
inductive Dq : V → D → Prop
  | non : Dq .non .non
  | bl (b : Bool) : Dq (.bl b) (.bl b)
  | int (i : Int) : Dq (.int i) (.int i)
  | str (x : Str) : Dq (.str x) (.str x)
  | tup {a : Addr} {xs : List V} {ds : List D} : SqT G.K H a xs → DqL xs ds → Dq (.ref a) (.tup ds)
  | lst {a : Addr} {xs : List V} {ds : List D} : H a = some (.lst xs) → ¬ B a → DqL xs ds → Dq (.ref a) (.lst ds)
  | dct {a : Addr} {kvs : List (Key × V)} {ds : List (Key × D)} : H a = some (.dK kvs) → ¬ B a → kvs.map (·.1) = ds.map (·.1) → DqL (kvs.map (·.2)) (ds.map (·.2)) → Dq (.ref a) (.dct ds)
  | ins {a C dx : Addr} {fs : List (Str × V)} {ds : List (Str × D)} : H a = some (.ins C dx fs) → ¬ B a → fs.map (·.1) = ds.map (·.1) → DqL (fs.map (·.2)) (ds.map (·.2)) → Dq (.ref a) (.ins C ds)
  | adr (a : Addr) : Dq (.ref a) (.adr a)
  | ty (n : String) : Dq (.ty n) (.ty n)
  | dk {a : Addr} : G.dk H a → Dq (.ref a) .dk
  | any (v : V) : Dq v .any
inductive DqL : List V → List D → Prop
  | nil : DqL [] []
  | cons {v : V} {vs : List V} {d : D} {ds : List D} : Dq v d → DqL vs ds → DqL (v :: vs) (d :: ds)
end
end
section
variable {G : Gx} {B B' : Addr → Prop} {H H' : Hp}
/-- what may have changed: hidden lists, dicts and instances; all else is kept -/
def Ext (B : Addr → Prop) (H H' : Hp) : Prop := ∀ a o, H a = some o → nt o → (B a → (∃ xs, o = .tup xs) ∨ (∃ ob xs, o = .frz ob (.tup xs)) ∨ ∃ φ, o = .ext φ) → H' a = some o
theorem Ext.of (e : Ex G H H') : Ext B H H' := fun a o h n _ => e.k a o h n
theorem sqt_ext {K : PySem.W.Frag} {a : Addr} {xs : List V} (e : Ext B H H') (h : SqT K H a xs) : SqT K H' a xs := by
  rcases h with (h | ⟨o, h⟩) | h
  · exact .inl (.inl (e _ _ h trivial fun _ => .inl ⟨_, rfl⟩))
  · exact .inl (.inr ⟨o, e _ _ h trivial fun _ => .inr (.inl ⟨_, _, rfl⟩)⟩)
  · exact .inr h
mutual
theorem Dq.ext (e : Ext B H H') : ∀ {v : V} {d : D}, Dq G B H v d → Dq G B H' v d
  | _, _, .non => .non
  | _, _, .bl b => .bl b
  | _, _, .int i => .int i
  | _, _, .str x => .str x
  | _, _, .tup h r => .tup (sqt_ext e h) (DqL.ext e r)
  | _, _, .lst h n r => .lst (e _ _ h trivial fun b => absurd b n) n (DqL.ext e r)
  | _, _, .dct h n k r => .dct (e _ _ h trivial fun b => absurd b n) n k (DqL.ext e r)
  | _, _, .ins h n k r => .ins (e _ _ h trivial fun b => absurd b n) n k (DqL.ext e r)
  | _, _, .adr a => .adr a
  | _, _, .ty n => .ty n
  | _, _, .dk h => .dk (G.dke _ _ _ (fun b φ q => e b _ q trivial fun _ => .inr (.inr ⟨φ, rfl⟩)) h)
  | _, _, .any v => .any v
theorem DqL.ext (e : Ext B H H') : ∀ {vs : List V} {ds : List D}, DqL G B H vs ds → DqL G B H' vs ds
  | _, _, .nil => .nil
  | _, _, .cons h r => .cons (Dq.ext e h) (DqL.ext e r)
end
theorem Dq.mono {v : V} {d : D} (e : Ex G H H') (h : Dq G B H v d) : Dq G B H' v d := h.ext (.of e)
theorem DqL.mono {vs : List V} {ds : List D} (e : Ex G H H') (h : DqL G B H vs ds) : DqL G B H' vs ds := h.ext (.of e)
mutual
theorem Dq.lessT (l : ∀ a, H a ≠ none → B' a → B a) : ∀ {v : V} {d : D}, Dq G B H v d → Dq G B' H v d
  | _, _, .non => .non
  | _, _, .bl b => .bl b
  | _, _, .int i => .int i
  | _, _, .str x => .str x
  | _, _, .tup h r => .tup h (DqL.lessT l r)
  | _, _, .lst h n r => .lst h (fun b => n (l _ (by rw [h]; exact fun z => nomatch z) b)) (DqL.lessT l r)
  | _, _, .dct h n k r => .dct h (fun b => n (l _ (by rw [h]; exact fun z => nomatch z) b)) k (DqL.lessT l r)
  | _, _, .ins h n k r => .ins h (fun b => n (l _ (by rw [h]; exact fun z => nomatch z) b)) k (DqL.lessT l r)
  | _, _, .adr a => .adr a
  | _, _, .ty n => .ty n
  | _, _, .dk h => .dk h
  | _, _, .any v => .any v
theorem DqL.lessT (l : ∀ a, H a ≠ none → B' a → B a) : ∀ {vs : List V} {ds : List D}, DqL G B H vs ds → DqL G B' H vs ds
  | _, _, .nil => .nil
  | _, _, .cons h r => .cons (Dq.lessT l h) (DqL.lessT l r)
end
theorem Dq.less (l : ∀ a, B' a → B a) {v : V} {d : D} (h : Dq G B H v d) : Dq G B' H v d := h.lessT fun a _ => l a
theorem DqL.less (l : ∀ a, B' a → B a) {vs : List V} {ds : List D} (h : DqL G B H vs ds) : DqL G B' H vs ds := h.lessT fun a _ => l a
/-- hidden, or p -/
def wth (B : Addr → Prop) (p : Addr) : Addr → Prop := fun a => B a ∨ a = p
theorem DqL.fresh {p : Addr} {vs : List V} {ds : List D} (n : H p = none) (h : DqL G B H vs ds) : DqL G (wth B p) H vs ds := h.lessT fun a t q => by
  rcases q with q | q
  · exact q
  · subst q
    exact absurd n t
theorem Dq.fresh {p : Addr} {v : V} {d : D} (n : H p = none) (h : Dq G B H v d) : Dq G (wth B p) H v d := h.lessT fun a t q => by
  rcases q with q | q
  · exact q
  · subst q
    exact absurd n t
-- data without lists, dicts, objects: nothing hidden can stand in it
mutual
def flatD : D → Bool
  | .non => true
  | .bl _ => true
  | .int _ => true
  | .str _ => true
  | .tup xs => flatDs xs
  | .adr _ => true
  | .ty _ => true
  | .dk => true
  | .any => true
  | .lst _ => false
  | .dct _ => false
  | .ins _ _ => false
def flatDs : List D → Bool
  | [] => true
  | d :: ds => flatD d && flatDs ds
end
mutual
theorem Dq.flat : ∀ {v : V} {d : D}, flatD d = true → Dq G B H v d → Dq G B' H v d
  | _, _, _, .non => .non
  | _, _, _, .bl b => .bl b
  | _, _, _, .int i => .int i
  | _, _, _, .str x => .str x
  | _, _, f, .tup h r => .tup h (DqL.flat (by simpa [flatD] using f) r)
  | _, _, f, .lst _ _ _ => by simp [flatD] at f
  | _, _, f, .dct _ _ _ _ => by simp [flatD] at f
  | _, _, f, .ins _ _ _ _ => by simp [flatD] at f
  | _, _, _, .adr a => .adr a
  | _, _, _, .ty n => .ty n
  | _, _, _, .dk h => .dk h
  | _, _, _, .any v => .any v
theorem DqL.flat : ∀ {vs : List V} {ds : List D}, flatDs ds = true → DqL G B H vs ds → DqL G B' H vs ds
  | _, _, _, .nil => .nil
  | _, d :: ds, f, .cons h r => by
    have f' : flatD d = true ∧ flatDs ds = true := by simpa [flatDs] using f
    exact .cons (Dq.flat f'.1 h) (DqL.flat f'.2 r)
end
theorem DqL.length : ∀ {vs : List V} {ds : List D}, DqL G B H vs ds → vs.length = ds.length
  | _, _, .nil => rfl
  | _, _, .cons _ r => congrArg Nat.succ (DqL.length r)
theorem DqL.append : ∀ {vs ws : List V} {ds es : List D}, DqL G B H vs ds → DqL G B H ws es → DqL G B H (vs ++ ws) (ds ++ es)
  | _, _, _, _, .nil, s => s
  | _, _, _, _, .cons h r, s => .cons h (DqL.append r s)
theorem DqL.get : ∀ {vs : List V} {ds : List D} {i : Nat} {d : D}, DqL G B H vs ds → ds[i]? = some d → ∃ v, vs[i]? = some v ∧ Dq G B H v d
  | _, _, _, _, .nil, e => by simp at e
  | _, _, 0, _, .cons h _, e => by simp at e; subst e; exact ⟨_, rfl, h⟩
  | _, _, i + 1, d, .cons _ r, e => by
    obtain ⟨v, h1, h2⟩ := DqL.get (i := i) (d := d) r (by simpa using e)
    exact ⟨v, by simpa using h1, h2⟩
theorem DqL.get' : ∀ {vs : List V} {ds : List D} {i : Nat} {v : V}, DqL G B H vs ds → vs[i]? = some v → ∃ d, ds[i]? = some d ∧ Dq G B H v d
  | _, _, _, _, .nil, e => by simp at e
  | _, _, 0, _, .cons h _, e => by simp at e; subst e; exact ⟨_, rfl, h⟩
  | _, _, i + 1, v, .cons _ r, e => by
    obtain ⟨d, h1, h2⟩ := DqL.get' (i := i) (v := v) r (by simpa using e)
    exact ⟨d, by simpa using h1, h2⟩
theorem DqL.drop : ∀ {vs : List V} {ds : List D} (n : Nat), DqL G B H vs ds → DqL G B H (vs.drop n) (ds.drop n)
  | _, _, 0, r => r
  | _, _, _ + 1, .nil => .nil
  | _, _, n + 1, .cons _ r => DqL.drop n r
theorem DqL.take : ∀ {vs : List V} {ds : List D} (n : Nat), DqL G B H vs ds → DqL G B H (vs.take n) (ds.take n)
  | _, _, 0, _ => .nil
  | _, _, _ + 1, .nil => .nil
  | _, _, n + 1, .cons h r => .cons h (DqL.take n r)
theorem DqL.set {v : V} {d : D} (h : Dq G B H v d) : ∀ {vs : List V} {ds : List D} (n : Nat), DqL G B H vs ds → DqL G B H (vs.set n v) (ds.set n d)
  | _, _, _, .nil => .nil
  | _, _, 0, .cons _ r => .cons h r
  | _, _, n + 1, .cons q r => .cons q (DqL.set h n r)
theorem DqL.eraseIdx : ∀ {vs : List V} {ds : List D} (n : Nat), DqL G B H vs ds → DqL G B H (vs.eraseIdx n) (ds.eraseIdx n)
  | _, _, _, .nil => .nil
  | _, _, 0, .cons _ r => r
  | _, _, n + 1, .cons q r => .cons q (DqL.eraseIdx n r)
theorem DqL.reverse : ∀ {vs : List V} {ds : List D}, DqL G B H vs ds → DqL G B H vs.reverse ds.reverse
  | _, _, .nil => .nil
  | _, _, .cons h r => by
    rw [List.reverse_cons, List.reverse_cons]
    exact (DqL.reverse r).append (.cons h .nil)
/-- a list cut as Python does -/
def cutD {α : Type} (xs : List α) (lo hi : Option Int) : List α := (xs.drop (HT.sIx xs.length 0 lo)).take (HT.sIx xs.length xs.length hi - HT.sIx xs.length 0 lo)
theorem DqL.cut {vs : List V} {ds : List D} (lo hi : Option Int) (r : DqL G B H vs ds) : DqL G B H (cutV vs lo hi) (cutD ds lo hi) := by
  unfold cutV cutD
  rw [r.length]
  exact (r.drop _).take _
theorem DqL.atI {vs : List V} {ds : List D} {i : Int} {d : D} (r : DqL G B H vs ds) (h : L2.atI ds i = some d) : ∃ v, L2.atI vs i = some v ∧ Dq G B H v d := by
  unfold L2.atI at h ⊢
  rw [r.length]
  cases e : ixN ds.length i with
  | none =>
    rw [e] at h
    cases h
  | some j =>
    rw [e] at h
    exact r.get h
/-- the words of a scalar -/
theorem dq_int {v : V} {i : Int} (h : Dq G B H v (.int i)) : v = .int i := by cases h; rfl
theorem dq_str {v : V} {x : Str} (h : Dq G B H v (.str x)) : v = .str x := by cases h; rfl
theorem dq_bl {v : V} {b : Bool} (h : Dq G B H v (.bl b)) : v = .bl b := by cases h; rfl
theorem dq_non {v : V} (h : Dq G B H v .non) : v = .non := by cases h; rfl
theorem dq_tup {v : V} {ds : List D} (h : Dq G B H v (.tup ds)) : ∃ a xs, v = .ref a ∧ SqT G.K H a xs ∧ DqL G B H xs ds := by
  cases h with
  | tup h r => exact ⟨_, _, rfl, h, r⟩
theorem dq_lst {v : V} {ds : List D} (h : Dq G B H v (.lst ds)) : ∃ a xs, v = .ref a ∧ H a = some (.lst xs) ∧ ¬ B a ∧ DqL G B H xs ds := by
  cases h with
  | lst h n r => exact ⟨_, _, rfl, h, n, r⟩
theorem dq_dct {v : V} {ds : List (Key × D)} (h : Dq G B H v (.dct ds)) : ∃ a kvs, v = .ref a ∧ H a = some (.dK kvs) ∧ ¬ B a ∧ kvs.map (·.1) = ds.map (·.1) ∧ DqL G B H (kvs.map (·.2)) (ds.map (·.2)) := by
  cases h with
  | dct h n k r => exact ⟨_, _, rfl, h, n, k, r⟩
theorem dq_ins {v : V} {C : Addr} {ds : List (Str × D)} (h : Dq G B H v (.ins C ds)) : ∃ a dx fs, v = .ref a ∧ H a = some (.ins C dx fs) ∧ ¬ B a ∧ fs.map (·.1) = ds.map (·.1) ∧ DqL G B H (fs.map (·.2)) (ds.map (·.2)) := by
  cases h with
  | ins h n k r => exact ⟨_, _, _, rfl, h, n, k, r⟩
theorem dql_ints {vs : List V} : ∀ {ns : List Int}, DqL G B H vs (ns.map D.int) → vs = ns.map V.int
  | [], h => by cases h; rfl
  | _ :: _, h => by
    cases h with
    | cons h r => rw [dq_int h, dql_ints r]; rfl
theorem dql_strs {vs : List V} : ∀ {ns : List Str}, DqL G B H vs (ns.map D.str) → vs = ns.map V.str
  | [], h => by cases h; rfl
  | _ :: _, h => by
    cases h with
    | cons h r => rw [dq_str h, dql_strs r]; rfl
theorem dql_bls {vs : List V} : ∀ {ns : List Bool}, DqL G B H vs (ns.map D.bl) → vs = ns.map V.bl
  | [], h => by cases h; rfl
  | _ :: _, h => by
    cases h with
    | cons h r => rw [dq_bl h, dql_bls r]; rfl
theorem dql_of_ints : ∀ {ns : List Int}, DqL G B H (ns.map V.int) (ns.map D.int)
  | [] => .nil
  | _ :: _ => .cons (.int _) dql_of_ints
theorem dql_of_strs : ∀ {ns : List Str}, DqL G B H (ns.map V.str) (ns.map D.str)
  | [] => .nil
  | _ :: _ => .cons (.str _) dql_of_strs
theorem dql_of_bls : ∀ {ns : List Bool}, DqL G B H (ns.map V.bl) (ns.map D.bl)
  | [] => .nil
  | _ :: _ => .cons (.bl _) dql_of_bls

/-! ### data as the library's data -/
mutual
def py : D → Option PyData
  | .non => some .none
  | .bl b => some (.bool b)
  | .int i => some (.int i)
  | .str x => some (.str x)
  | .tup xs => (pys xs).map PyData.tuple
  | .lst xs => (pys xs).map PyData.list
  | _ => none
def pys : List D → Option (List PyData)
  | [] => some []
  | d :: ds => match py d, pys ds with
    | some p, some ps => some (p :: ps)
    | _, _ => none
end
mutual
theorem Dq.dp : ∀ {v : V} {d : D} {p : PyData}, Dq G B H v d → py d = some p → Dp G.K H v p
  | _, _, p, .non, e => by
    have e' : (PyData.none) = p := by simpa [py] using e
    subst e'; exact .non
  | _, _, p, .bl b, e => by
    have e' : (PyData.bool b) = p := by simpa [py] using e
    subst e'; exact .bl b
  | _, _, p, .int i, e => by
    have e' : (PyData.int i) = p := by simpa [py] using e
    subst e'; exact .int i
  | _, _, p, .str x, e => by
    have e' : (PyData.str x) = p := by simpa [py] using e
    subst e'; exact .str x
  | _, .tup ds, p, .tup h r, e => by
    have e' : ∃ a, pys ds = some a ∧ PyData.tuple a = p := by simpa [py] using e
    obtain ⟨a, e1, e2⟩ := e'
    subst e2
    exact .tup h (DqL.dp r e1)
  | _, .lst ds, p, .lst h n r, e => by
    have e' : ∃ a, pys ds = some a ∧ PyData.list a = p := by simpa [py] using e
    obtain ⟨a, e1, e2⟩ := e'
    subst e2
    exact .lst (SqL.of h) (DqL.dp r e1)
  | _, _, _, .dct _ _ _ _, e => by simp [py] at e
  | _, _, _, .ins _ _ _ _, e => by simp [py] at e
  | _, _, _, .adr a, e => by simp [py] at e
  | _, _, _, .ty n, e => by simp [py] at e
  | _, _, _, .dk h, e => by simp [py] at e
  | _, _, _, .any v, e => by simp [py] at e
theorem DqL.dp : ∀ {vs : List V} {ds : List D} {ps : List PyData}, DqL G B H vs ds → pys ds = some ps → DpAll G.K H vs ps
  | _, _, ps, .nil, e => by
    have e' : ([] : List PyData) = ps := by simpa [pys] using e
    subst e'; exact .nil
  | _, d :: ds, ps, .cons h r, e => by
    cases e1 : py d with
    | none => simp [pys, e1] at e
    | some p =>
      cases e2 : pys ds with
      | none => simp [pys, e1, e2] at e
      | some qs =>
        have e' : p :: qs = ps := by simpa [pys, e1, e2] using e
        subst e'
        exact .cons (Dq.dp h e1) (DqL.dp r e2)
end
end
end Sw
end

section
set_option Elab.async false
set_option autoImplicit false
set_option linter.all false
set_option maxRecDepth 100000
set_option maxHeartbeats 4000000
namespace Sw
open PySem PySem.Spec PyProof.Rows L2

/-! ### slots -/
inductive OC where
  | lst (xs : List D) | dK (kvs : List (Key × D)) | dT (kvs : List (List Key × D)) | dL (rows : List (Key × Addr × List D)) | ins (C dx : Addr) (fs : List (Str × D))
inductive Sl where
  | no | d (x : D) | own (a : Addr) (c : OC)
def OC.more : OC → List Addr
  | .dL rows => rows.map (·.2.1)
  | _ => []
def Sl.ads : Sl → List Addr
  | .own a c => a :: c.more
  | _ => []
def owns (ρ : List Sl) : List Addr := ρ.flatMap Sl.ads
def hid (B : Addr → Prop) (ρ : List Sl) (a : Addr) : Prop := B a ∨ a ∈ owns ρ
section
variable (G : Gx) (B : Addr → Prop) (H : Hp)
def OCok (a : Addr) : OC → Prop
  | .lst xs => ∃ vs, H a = some (.lst vs) ∧ DqL G B H vs xs
  | .dK kvs => ∃ ks, H a = some (.dK ks) ∧ ks.map (·.1) = kvs.map (·.1) ∧ DqL G B H (ks.map (·.2)) (kvs.map (·.2))
  | .dT kvs => ∃ ks, H a = some (.dT ks) ∧ ks.map (·.1) = kvs.map (·.1) ∧ DqL G B H (ks.map (·.2)) (kvs.map (·.2))
  | .ins C dx fs => ∃ us, H a = some (.ins C dx us) ∧ us.map (·.1) = fs.map (·.1) ∧ DqL G B H (us.map (·.2)) (fs.map (·.2))
  | .dL rows => H a = some (.dK (rows.map fun r => (r.1, V.ref r.2.1))) ∧ ∀ r ∈ rows, ∃ vs, H r.2.1 = some (.lst vs) ∧ DqL G B H vs r.2.2
def SlOk : Option V → Sl → Prop
  | _, .no => True
  | s, .d x => ∃ v, s = some v ∧ Dq G B H v x
  | s, .own a c => s = some (.ref a) ∧ OCok G B H a c
end
structure Rho (G : Gx) (B : Addr → Prop) (H0 H : Hp) (σ : L2.St) (ρ : List Sl) : Prop where
  tb : G.tb H
  ex : Ex G H0 H
  bs : ∀ a, B a → H a ≠ none
  nb : ∀ a, a ∈ owns ρ → ¬ B a
  len : σ.length = ρ.length
  at_ : ∀ (i : Nat) (s : Sl), ρ[i]? = some s → ∃ o, σ[i]? = some o ∧ SlOk G (hid B ρ) H o s
  own : ∀ a, a ∈ owns ρ → H0 a = none
  tr : ∀ a, a ∈ owns ρ → H a ≠ none
  dis : (owns ρ).Nodup
def Alc (Bh : Addr → Prop) (H : Hp) : Prop := ∀ a, Bh a → H a ≠ none
section
variable {G : Gx} {B B' : Addr → Prop} {H0 H H' : Hp} {σ : L2.St} {ρ : List Sl}
theorem OCok.mono (e : Ex G H H') {a : Addr} : ∀ {c : OC}, OCok G B H a c → OCok G B H' a c
  | .lst xs, ⟨vs, h, r⟩ => ⟨vs, e.at h, r.mono e⟩
  | .dK kvs, ⟨ks, h, k, r⟩ => ⟨ks, e.at h, k, r.mono e⟩
  | .dT kvs, ⟨ks, h, k, r⟩ => ⟨ks, e.at h, k, r.mono e⟩
  | .ins C dx fs, ⟨us, h, k, r⟩ => ⟨us, e.at h, k, r.mono e⟩
  | .dL rows, ⟨h, r⟩ => ⟨e.at h, fun x hx => by
    obtain ⟨vs, h1, h2⟩ := r x hx
    exact ⟨vs, e.at h1, h2.mono e⟩⟩
theorem OCok.less (l : ∀ a, B' a → B a) {a : Addr} : ∀ {c : OC}, OCok G B H a c → OCok G B' H a c
  | .lst xs, ⟨vs, h, r⟩ => ⟨vs, h, r.less l⟩
  | .dK kvs, ⟨ks, h, k, r⟩ => ⟨ks, h, k, r.less l⟩
  | .dT kvs, ⟨ks, h, k, r⟩ => ⟨ks, h, k, r.less l⟩
  | .ins C dx fs, ⟨us, h, k, r⟩ => ⟨us, h, k, r.less l⟩
  | .dL rows, ⟨h, r⟩ => ⟨h, fun x hx => by
    obtain ⟨vs, h1, h2⟩ := r x hx
    exact ⟨vs, h1, h2.less l⟩⟩
theorem SlOk.mono (e : Ex G H H') {o : Option V} : ∀ {s : Sl}, SlOk G B H o s → SlOk G B H' o s
  | .no, _ => trivial
  | .d x, ⟨v, h, r⟩ => ⟨v, h, r.mono e⟩
  | .own a c, ⟨h, r⟩ => ⟨h, r.mono e⟩
theorem SlOk.less (l : ∀ a, B' a → B a) {o : Option V} : ∀ {s : Sl}, SlOk G B H o s → SlOk G B' H o s
  | .no, _ => trivial
  | .d x, ⟨v, h, r⟩ => ⟨v, h, r.less l⟩
  | .own a c, ⟨h, r⟩ => ⟨h, r.less l⟩
theorem OCok.lessT (l : ∀ a, H a ≠ none → B' a → B a) {a : Addr} : ∀ {c : OC}, OCok G B H a c → OCok G B' H a c
  | .lst xs, ⟨vs, h, r⟩ => ⟨vs, h, r.lessT l⟩
  | .dK kvs, ⟨ks, h, k, r⟩ => ⟨ks, h, k, r.lessT l⟩
  | .dT kvs, ⟨ks, h, k, r⟩ => ⟨ks, h, k, r.lessT l⟩
  | .ins C dx fs, ⟨us, h, k, r⟩ => ⟨us, h, k, r.lessT l⟩
  | .dL rows, ⟨h, r⟩ => ⟨h, fun x hx => by
    obtain ⟨vs, h1, h2⟩ := r x hx
    exact ⟨vs, h1, h2.lessT l⟩⟩
theorem SlOk.lessT (l : ∀ a, H a ≠ none → B' a → B a) {o : Option V} : ∀ {s : Sl}, SlOk G B H o s → SlOk G B' H o s
  | .no, _ => trivial
  | .d x, ⟨v, h, r⟩ => ⟨v, h, r.lessT l⟩
  | .own a c, ⟨h, r⟩ => ⟨h, r.lessT l⟩
theorem Rho.alc (R : Rho G B H0 H σ ρ) : Alc (hid B ρ) H := fun a h q => by
  rcases h with h | h
  · exact R.bs a h q
  · exact R.tr a h q
theorem Rho.mono (R : Rho G B H0 H σ ρ) (e : Ex G H H') : Rho G B H0 H' σ ρ :=
  ⟨e.t R.tb, R.ex.trans e, (fun a h q => R.bs a h (e.s a q)), R.nb, R.len, fun i s h => by
    obtain ⟨o, h1, h2⟩ := R.at_ i s h
    exact ⟨o, h1, h2.mono e⟩, R.own, (fun a h q => by
      exact R.tr a h (e.s a q)), R.dis⟩
theorem Rho.var (R : Rho G B H0 H σ ρ) {i : Nat} {x : D} (h : ρ[i]? = some (.d x)) : ∃ v, σ[i]? = some (some v) ∧ Dq G (hid B ρ) H v x := by
  obtain ⟨o, h1, v, h2, h3⟩ := R.at_ i _ h
  subst h2
  exact ⟨v, h1, h3⟩
theorem Rho.varO (R : Rho G B H0 H σ ρ) {i : Nat} {a : Addr} {c : OC} (h : ρ[i]? = some (.own a c)) : σ[i]? = some (some (.ref a)) ∧ OCok G (hid B ρ) H a c := by
  obtain ⟨o, h1, h2, h3⟩ := R.at_ i _ h
  subst h2
  exact ⟨h1, h3⟩
theorem mem_owns {ρ : List Sl} {i : Nat} {s : Sl} {a : Addr} (h : ρ[i]? = some s) (ha : a ∈ s.ads) : a ∈ owns ρ := List.mem_flatMap.mpr ⟨s, List.mem_of_getElem? h, ha⟩
theorem owns_set_sub {s : Sl} {a : Addr} : ∀ {ρ : List Sl} {i : Nat}, a ∈ owns (ρ.set i s) → a ∈ owns ρ ∨ a ∈ s.ads
  | [], _, h => by simp [owns] at h
  | t :: ρ, 0, h => by
    have h' : a ∈ s.ads ∨ a ∈ owns ρ := by simpa [owns] using h
    rcases h' with h' | h'
    · exact .inr h'
    · exact .inl (by simp only [owns, List.flatMap_cons, List.mem_append]; exact .inr h')
  | t :: ρ, i + 1, h => by
    have h' : a ∈ t.ads ∨ a ∈ owns (ρ.set i s) := by simpa [owns] using h
    rcases h' with h' | h'
    · exact .inl (by simp only [owns, List.flatMap_cons, List.mem_append]; exact .inl h')
    · rcases owns_set_sub h' with q | q
      · exact .inl (by simp only [owns, List.flatMap_cons, List.mem_append]; exact .inr q)
      · exact .inr q
theorem owns_set_nodup {s : Sl} : ∀ {ρ : List Sl} {i : Nat}, (owns ρ).Nodup → s.ads.Nodup → (∀ a ∈ s.ads, a ∉ owns ρ) → (owns (ρ.set i s)).Nodup
  | [], _, h, _, _ => h
  | t :: ρ, 0, h, hs, hd => by
    have h' : (t.ads ++ owns ρ).Nodup := by simpa [owns] using h
    have e : owns ((t :: ρ).set 0 s) = s.ads ++ owns ρ := by simp [owns]
    rw [e]
    refine List.nodup_append.mpr ⟨hs, (List.nodup_append.mp h').2.1, fun a ha b hb e => ?_⟩
    subst e
    exact hd a ha (by simp only [owns, List.flatMap_cons, List.mem_append]; exact .inr hb)
  | t :: ρ, i + 1, h, hs, hd => by
    have h' : (t.ads ++ owns ρ).Nodup := by simpa [owns] using h
    have e : owns ((t :: ρ).set (i + 1) s) = t.ads ++ owns (ρ.set i s) := by simp [owns]
    obtain ⟨h1, h2, h3⟩ := List.nodup_append.mp h'
    rw [e]
    refine List.nodup_append.mpr ⟨h1, owns_set_nodup (i := i) h2 hs fun a ha hb => hd a ha (by simp only [owns, List.flatMap_cons, List.mem_append]; exact .inr hb), fun a ha b hb e => ?_⟩
    subst e
    rcases owns_set_sub hb with q | q
    · exact h3 a ha a q rfl
    · exact hd a q (by simp only [owns, List.flatMap_cons, List.mem_append]; exact .inl ha)
/-- a slot is stored: data -/
theorem Rho.set (R : Rho G B H0 H σ ρ) (i : Nat) {v : V} {x : D} (h : Dq G (hid B ρ) H v x) : Rho G B H0 H (σ.set i (some v)) (ρ.set i (.d x)) := by
  have sub : ∀ a, hid B (ρ.set i (.d x)) a → hid B ρ a := fun a q => by
    rcases q with q | q
    · exact .inl q
    · rcases owns_set_sub q with q | q
      · exact .inr q
      · simp [Sl.ads] at q
  refine ⟨R.tb, R.ex, R.bs, (fun a q => R.nb a (by
    rcases owns_set_sub q with q | q
    · exact q
    · simp [Sl.ads] at q)), by simpa using R.len, fun j s e => ?_, fun a q => ?_, fun a q => ?_, owns_set_nodup R.dis (by simp [Sl.ads]) (by simp [Sl.ads])⟩
  · by_cases hj : i = j
    · subst hj
      have hlt : i < ρ.length := by
        have := (List.getElem?_eq_some_iff.mp e).1
        simpa using this
      rw [List.getElem?_set_self hlt] at e
      cases e
      exact ⟨some v, List.getElem?_set_self (by rw [R.len]; exact hlt), v, rfl, h.less sub⟩
    · rw [List.getElem?_set_ne hj] at e
      obtain ⟨o, h1, h2⟩ := R.at_ j s e
      exact ⟨o, by rw [List.getElem?_set_ne hj]; exact h1, h2.less sub⟩
  · rcases owns_set_sub q with q | q
    · exact R.own a q
    · simp [Sl.ads] at q
  · rcases owns_set_sub q with q | q
    · exact R.tr a q
    · simp [Sl.ads] at q
/-- forgetting what a slot holds -/
theorem Rho.forget (R : Rho G B H0 H σ ρ) (i : Nat) (o : Option V) : Rho G B H0 H (σ.set i o) (ρ.set i .no) := by
  have sub : ∀ a, hid B (ρ.set i .no) a → hid B ρ a := fun a q => by
    rcases q with q | q
    · exact .inl q
    · rcases owns_set_sub q with q | q
      · exact .inr q
      · simp [Sl.ads] at q
  refine ⟨R.tb, R.ex, R.bs, (fun a q => R.nb a (by
    rcases owns_set_sub q with q | q
    · exact q
    · simp [Sl.ads] at q)), by simpa using R.len, fun j s e => ?_, fun a q => ?_, fun a q => ?_, owns_set_nodup R.dis (by simp [Sl.ads]) (by simp [Sl.ads])⟩
  · by_cases hj : i = j
    · subst hj
      have hlt : i < ρ.length := by
        have := (List.getElem?_eq_some_iff.mp e).1
        simpa using this
      rw [List.getElem?_set_self hlt] at e
      cases e
      exact ⟨o, List.getElem?_set_self (by rw [R.len]; exact hlt), trivial⟩
    · rw [List.getElem?_set_ne hj] at e
      obtain ⟨o, h1, h2⟩ := R.at_ j s e
      exact ⟨o, by rw [List.getElem?_set_ne hj]; exact h1, h2.less sub⟩
  · rcases owns_set_sub q with q | q
    · exact R.own a q
    · simp [Sl.ads] at q
  · rcases owns_set_sub q with q | q
    · exact R.tr a q
    · simp [Sl.ads] at q
theorem set_same {α : Type} {xs : List α} {i : Nat} {a : α} (h : xs[i]? = some a) : xs.set i a = xs := by
  apply List.ext_getElem?
  intro j
  by_cases hj : i = j
  · subst hj
    rw [List.getElem?_set_self (List.getElem?_eq_some_iff.mp h).1, h]
  · rw [List.getElem?_set_ne hj]
/-- an owned list is given up: from now on it is data -/
theorem Rho.release (R : Rho G B H0 H σ ρ) {i : Nat} {a : Addr} {xs : List D} (h : ρ[i]? = some (.own a (.lst xs))) : Rho G B H0 H σ (ρ.set i (.d (.lst xs))) := by
  obtain ⟨h1, vs, h2, h3⟩ := R.varO h
  have hlt : i < ρ.length := (List.getElem?_eq_some_iff.mp h).1
  -- the list's own address does not stand among the others
  have key : ∀ b, hid B (ρ.set i (.d (.lst xs))) b → hid B ρ b ∧ b ≠ a := fun b q => by
    rcases q with q | q
    · refine ⟨.inl q, fun e => ?_⟩
      subst e
      exact R.nb _ (mem_owns h (by simp [Sl.ads])) q
    · have q1 : b ∈ owns ρ := by
        rcases owns_set_sub q with q | q
        · exact q
        · simp [Sl.ads] at q
      refine ⟨.inr q1, fun e => ?_⟩
      subst e
      have nd := R.dis
      obtain ⟨s, hs, hb⟩ := List.mem_flatMap.mp q
      obtain ⟨j, hj, ej⟩ := List.getElem_of_mem hs
      have e2 : (ρ.set i (.d (.lst xs)))[j]? = some s := by rw [List.getElem?_eq_getElem hj, ej]
      by_cases hij : i = j
      · subst hij
        rw [List.getElem?_set_self hlt] at e2
        cases e2
        simp [Sl.ads] at hb
      · rw [List.getElem?_set_ne hij] at e2
        exact owns_two nd h e2 hij (by simp [Sl.ads]) hb
  refine ⟨R.tb, R.ex, R.bs, (fun a q => R.nb a (by
    rcases owns_set_sub q with q | q
    · exact q
    · simp [Sl.ads] at q)), by simpa using R.len, fun j s e => ?_, fun b q => ?_, fun b q => ?_, owns_set_nodup R.dis (by simp [Sl.ads]) (by simp [Sl.ads])⟩
  · by_cases hj : i = j
    · subst hj
      rw [List.getElem?_set_self hlt] at e
      cases e
      exact ⟨_, h1, _, rfl, .lst h2 (fun q => (key _ q).2 rfl) (h3.less fun b q => (key b q).1)⟩
    · rw [List.getElem?_set_ne hj] at e
      obtain ⟨o, k1, k2⟩ := R.at_ j s e
      exact ⟨o, k1, k2.less fun b q => (key b q).1⟩
  · rcases owns_set_sub q with q | q
    · exact R.own b q
    · simp [Sl.ads] at q
  · rcases owns_set_sub q with q | q
    · exact R.tr b q
    · simp [Sl.ads] at q
where
  owns_two {ρ : List Sl} {i j : Nat} {s t : Sl} {a : Addr} (nd : (owns ρ).Nodup) (hi : ρ[i]? = some s) (hj : ρ[j]? = some t) (ne : i ≠ j) (ha : a ∈ s.ads) (hb : a ∈ t.ads) : False := by
    induction ρ generalizing i j with
    | nil => simp at hi
    | cons u ρ ih =>
      have nd' : (u.ads ++ owns ρ).Nodup := by simpa [owns] using nd
      obtain ⟨n1, n2, n3⟩ := List.nodup_append.mp nd'
      cases i with
      | zero =>
        cases j with
        | zero => exact ne rfl
        | succ j =>
          have e : u = s := by simpa using hi
          subst e
          exact n3 a ha a (mem_owns (show ρ[j]? = some t by simpa using hj) hb) rfl
      | succ i =>
        cases j with
        | zero =>
          have e : u = t := by simpa using hj
          subst e
          exact n3 a hb a (mem_owns (show ρ[i]? = some s by simpa using hi) ha) rfl
        | succ j => exact ih n2 (by simpa using hi) (by simpa using hj) (fun e => ne (congrArg Nat.succ e))
end
end Sw
end

section
set_option Elab.async false
set_option autoImplicit false
set_option linter.all false
set_option maxRecDepth 100000
set_option maxHeartbeats 4000000
namespace Sw
open PySem PySem.Spec PyProof.Rows L2

structure Sc where
  G : Gx
  B : Addr → Prop
  H0 : Hp
section
variable (S : Sc)
abbrev Sc.R (H : Hp) (σ : L2.St) (ρ : List Sl) : Prop := Rho S.G S.B S.H0 H σ ρ
abbrev Sc.q (ρ : List Sl) (H : Hp) (v : V) (d : D) : Prop := Dq S.G (hid S.B ρ) H v d
abbrev Sc.ql (ρ : List Sl) (H : Hp) (v : List V) (d : List D) : Prop := DqL S.G (hid S.B ρ) H v d
def WE (te : TE) (ρ : List Sl) (Q : D → Prop) : Prop := ∀ σ H, S.R H σ ρ → ∀ Qv : VK, (∀ v H' d, Ex S.G H H' → S.q ρ H' v d → Q d → Qv v H') → te σ H Qv
def WN (te : TE) (ρ : List Sl) (Q : List D → Prop) : Prop := ∀ σ H, S.R H σ ρ → ∀ Qv : VK, (∀ p H' vs ds, H p = none → Ex S.G H H' → H' p = some (.lst vs) → DqL S.G (wth (hid S.B ρ) p) H' vs ds → Q ds → Qv (.ref p) H') → te σ H Qv
def WT (tt : TT) (ρ : List Sl) (Q : Bool → Prop) : Prop := ∀ σ H, S.R H σ ρ → ∀ Qv : Bool → Hp → Prop, (∀ b H', Ex S.G H H' → Q b → Qv b H') → tt σ H Qv
def WA (ta : TA) (ρ : List Sl) (Q : List D → Prop) : Prop := ∀ σ H, S.R H σ ρ → ∀ Qv : List V → Hp → Prop, (∀ vs H' ds, Ex S.G H H' → S.ql ρ H' vs ds → Q ds → Qv vs H') → ta σ H Qv
end
section
variable (G : Gx)
/-- operations by values -/
def RD (r : R2) (x y : D) (Q : D → Prop) : Prop := ∀ Bh H vx vy, Alc Bh H → Dq G Bh H vx x → Dq G Bh H vy y → ∀ Qv : VK, (∀ v H' d, Ex G H H' → Dq G Bh H' v d → Q d → Qv v H') → r vx vy H Qv
def RC (r : List V → Hp → VK → Prop) (xs : List D) (Q : D → Prop) : Prop := ∀ Bh H vs, Alc Bh H → DqL G Bh H vs xs → ∀ Qv : VK, (∀ v H' d, Ex G H H' → Dq G Bh H' v d → Q d → Qv v H') → r vs H Qv
def RCN (r : List V → Hp → VK → Prop) (xs : List D) (Q : List D → Prop) : Prop := ∀ Bh H vs, Alc Bh H → DqL G Bh H vs xs → ∀ Qv : VK, (∀ p H' ws ds, H p = none → Ex G H H' → H' p = some (.lst ws) → DqL G (wth Bh p) H' ws ds → Q ds → Qv (.ref p) H') → r vs H Qv
def RDN (r : R2) (x y : D) (Q : List D → Prop) : Prop := ∀ Bh H vx vy, Alc Bh H → Dq G Bh H vx x → Dq G Bh H vy y → ∀ Qv : VK, (∀ p H' ws ds, H p = none → Ex G H H' → H' p = some (.lst ws) → DqL G (wth Bh p) H' ws ds → Q ds → Qv (.ref p) H') → r vx vy H Qv
end
section
variable {S : Sc} {ρ : List Sl} {ta tb te tc : TE} {t u : TT} {ts tr : TA} {r r' : R2}
theorem nf {G : Gx} {H H' : Hp} {p : Addr} (e : Ex G H H') (h : H' p = none) : H p = none := e.s p h
theorem Alc.mono {G : Gx} {Bh : Addr → Prop} {H H' : Hp} (a : Alc Bh H) (e : Ex G H H') : Alc Bh H' := fun b h q => a b h (nf e q)
theorem Alc.fresh {Bh : Addr → Prop} {H : Hp} {p : Addr} (a : Alc Bh H) (h : H p = none) : ¬ Bh p := fun b => a p b h
theorem WE.mono {Q Q' : D → Prop} (h : WE S te ρ Q) (k : ∀ d, Q d → Q' d) : WE S te ρ Q' := fun σ H R Qv q => h σ H R Qv fun v H' d e r z => q v H' d e r (k d z)
theorem WT.mono {Q Q' : Bool → Prop} (h : WT S t ρ Q) (k : ∀ d, Q d → Q' d) : WT S t ρ Q' := fun σ H R Qv q => h σ H R Qv fun v H' e z => q v H' e (k v z)
theorem WN.mono {Q Q' : List D → Prop} (h : WN S te ρ Q) (k : ∀ d, Q d → Q' d) : WN S te ρ Q' := fun σ H R Qv q => h σ H R Qv fun p H' vs ds n e h1 r z => q p H' vs ds n e h1 r (k ds z)
/-- a new list is data -/
theorem WN.e {Q : D → Prop} (h : WN S te ρ fun ds => Q (.lst ds)) : WE S te ρ Q := fun σ H R Qv q => h σ H R Qv fun p H' vs ds n e h1 r z =>
  q _ H' (.lst ds) e (.lst h1 (R.alc.fresh n) (r.less fun a b => .inl b)) z
theorem we_var (i : Nat) {x : D} {Q : D → Prop} (h : ρ[i]? = some (.d x)) (q : Q x) : WE S (tVar i) ρ Q := fun σ H R Qv k => by
  obtain ⟨v, h1, h2⟩ := R.var h
  exact ⟨v, h1, k v H x (Ex.refl H) h2 q⟩
theorem we_int {i : Int} {Q : D → Prop} (q : Q (.int i)) : WE S (tC (.int i)) ρ Q := fun σ H R Qv k => k _ H _ (Ex.refl H) (.int i) q
theorem we_str {x : Str} {Q : D → Prop} (q : Q (.str x)) : WE S (tC (.str x)) ρ Q := fun σ H R Qv k => k _ H _ (Ex.refl H) (.str x) q
theorem we_bl {b : Bool} {Q : D → Prop} (q : Q (.bl b)) : WE S (tC (.bl b)) ρ Q := fun σ H R Qv k => k _ H _ (Ex.refl H) (.bl b) q
theorem we_non {Q : D → Prop} (q : Q .non) : WE S (tC .non) ρ Q := fun σ H R Qv k => k _ H _ (Ex.refl H) .non q
theorem we_ty {n : String} {Q : D → Prop} (q : Q (.ty n)) : WE S (tC (.ty n)) ρ Q := fun σ H R Qv k => k _ H _ (Ex.refl H) (.ty n) q
theorem we_adr {a : Addr} {Q : D → Prop} (q : Q (.adr a)) : WE S (tC (.ref a)) ρ Q := fun σ H R Qv k => k _ H _ (Ex.refl H) (.adr a) q
/-- a tuple of the module's own -/
theorem we_ktup {a : Addr} {xs : List V} {ds : List D} {Q : D → Prop} (h : ∀ H, SqT S.G.K H a xs) (hd : ∀ Bh H, DqL S.G Bh H xs ds) (q : Q (.tup ds)) : WE S (tC (.ref a)) ρ Q := fun σ H R Qv k => k _ H _ (Ex.refl H) (.tup (h H) (hd _ H)) q
theorem we_op {Q : D → Prop} (h : WE S ta ρ fun x => WE S tb ρ fun y => RD S.G r x y Q) : WE S (tOp r ta tb) ρ Q := fun σ H R Qv k =>
  h σ H R _ fun v H1 x e1 q1 h2 => h2 σ H1 (R.mono e1) _ fun u H2 y e2 q2 h3 =>
    h3 _ H2 v u (R.alc.mono (e1.trans e2)) (q1.mono e2) q2 Qv fun z H3 d e3 q3 hq => k z H3 d ((e1.trans e2).trans e3) q3 hq
theorem wn_op {Q : List D → Prop} (h : WE S ta ρ fun x => WE S tb ρ fun y => RDN S.G r x y Q) : WN S (tOp r ta tb) ρ Q := fun σ H R Qv k =>
  h σ H R _ fun v H1 x e1 q1 h2 => h2 σ H1 (R.mono e1) _ fun u H2 y e2 q2 h3 =>
    h3 _ H2 v u (R.alc.mono (e1.trans e2)) (q1.mono e2) q2 Qv fun p H3 ws d n e3 hp q3 hq => k p H3 ws d (nf (e1.trans e2) n) ((e1.trans e2).trans e3) hp q3 hq
theorem we_if {Q : D → Prop} (h : WT S t ρ fun b => if b = true then WE S ta ρ Q else WE S tb ρ Q) : WE S (tIf t ta tb) ρ Q := fun σ H R Qv k =>
  h σ H R _ fun b H1 e1 h2 => by
    cases b with
    | true => exact (show WE S ta ρ Q from by simpa using h2) σ H1 (R.mono e1) Qv fun v H2 d e2 q2 hq => k v H2 d (e1.trans e2) q2 hq
    | false => exact (show WE S tb ρ Q from by simpa using h2) σ H1 (R.mono e1) Qv fun v H2 d e2 q2 hq => k v H2 d (e1.trans e2) q2 hq
theorem we_and {Q : D → Prop} (h : WE S ta ρ fun x => ∃ c, x = .bl c ∧ if c = true then WE S tb ρ Q else Q (.bl false)) : WE S (tAndV ta tb) ρ Q := fun σ H R Qv k =>
  h σ H R _ fun v H1 x e1 q1 ⟨c, hx, h2⟩ => by
    subst hx
    refine ⟨c, dq_bl q1, ?_⟩
    cases c with
    | true => exact (show WE S tb ρ Q from by simpa using h2) σ H1 (R.mono e1) Qv fun v H2 d e2 q2 hq => k v H2 d (e1.trans e2) q2 hq
    | false => exact k _ H1 _ e1 (.bl false) (by simpa using h2)
theorem we_or {Q : D → Prop} (h : WE S ta ρ fun x => ∃ c, x = .bl c ∧ if c = true then Q (.bl true) else WE S tb ρ Q) : WE S (tOrV ta tb) ρ Q := fun σ H R Qv k =>
  h σ H R _ fun v H1 x e1 q1 ⟨c, hx, h2⟩ => by
    subst hx
    refine ⟨c, dq_bl q1, ?_⟩
    cases c with
    | false => exact (show WE S tb ρ Q from by simpa using h2) σ H1 (R.mono e1) Qv fun v H2 d e2 q2 hq => k v H2 d (e1.trans e2) q2 hq
    | true => exact k _ H1 _ e1 (.bl true) (by simpa using h2)
theorem we_not {Q : D → Prop} (h : WE S ta ρ fun x => ∃ c, x = .bl c ∧ Q (.bl (!c))) : WE S (tNotV ta) ρ Q := fun σ H R Qv k =>
  h σ H R _ fun v H1 x e1 q1 ⟨c, hx, h2⟩ => by
    subst hx
    exact ⟨c, dq_bl q1, k _ H1 _ e1 (.bl _) h2⟩
/-- a reading of two ways: by the first, by the second -/
def tAlt (t u : TE) : TE := fun σ H Q => t σ H Q ∨ u σ H Q
theorem we_alt1 {Q : D → Prop} (h : WE S ta ρ Q) : WE S (tAlt ta tb) ρ Q := fun σ H R Qv k => .inl (h σ H R Qv k)
theorem we_alt2 {Q : D → Prop} (h : WE S tb ρ Q) : WE S (tAlt ta tb) ρ Q := fun σ H R Qv k => .inr (h σ H R Qv k)
/-! arguments -/
theorem wa_nil {Q : List D → Prop} (q : Q []) : WA S tNil ρ Q := fun σ H R Qv k => k [] H [] (Ex.refl H) .nil q
theorem wa_cons {Q : List D → Prop} (h : WE S te ρ fun x => WA S tr ρ fun xs => Q (x :: xs)) : WA S (tCons te tr) ρ Q := fun σ H R Qv k =>
  h σ H R _ fun v H1 x e1 q1 h2 => h2 σ H1 (R.mono e1) _ fun vs H2 ds e2 q2 hq => k _ H2 _ (e1.trans e2) (.cons (q1.mono e2) q2) hq
theorem we_tup {Q : D → Prop} (h : WA S ts ρ fun xs => xs.length ≤ sizeLine ∧ Q (.tup xs)) : WE S (tTup ts) ρ Q := fun σ H R Qv k =>
  h σ H R _ fun vs H1 ds e1 q1 ⟨z, hq⟩ => ⟨by rw [q1.length]; exact z, fun p hp => k _ _ _ (e1.trans (Ex.new hp)) (.tup (SqT.of upd_same) (q1.mono (Ex.new hp))) hq⟩
theorem wn_lst {Q : List D → Prop} (h : WA S ts ρ fun xs => xs.length ≤ sizeLine ∧ Q xs) : WN S (tLst ts) ρ Q := fun σ H R Qv k =>
  h σ H R _ fun vs H1 ds e1 q1 ⟨z, hq⟩ => ⟨by rw [q1.length]; exact z, fun p hp => k p _ vs ds (nf e1 hp) (e1.trans (Ex.new hp)) upd_same ((q1.fresh hp).mono (Ex.new hp)) hq⟩
theorem we_cb {r : List V → Hp → VK → Prop} {Q : D → Prop} (h : WA S ts ρ fun xs => RC S.G r xs Q) : WE S (tCB r ts) ρ Q := fun σ H R Qv k =>
  h σ H R _ fun vs H1 ds e1 q1 h2 => h2 _ H1 vs (R.alc.mono e1) q1 Qv fun v H2 d e2 q2 hq => k v H2 d (e1.trans e2) q2 hq
theorem wn_cb {r : List V → Hp → VK → Prop} {Q : List D → Prop} (h : WA S ts ρ fun xs => RCN S.G r xs Q) : WN S (tCB r ts) ρ Q := fun σ H R Qv k =>
  h σ H R _ fun vs H1 ds e1 q1 h2 => h2 _ H1 vs (R.alc.mono e1) q1 Qv fun p H2 ws d n e2 hp q2 hq => k p H2 ws d (nf e1 n) (e1.trans e2) hp q2 hq
/-! tests -/
theorem wt_test {Q : Bool → Prop} (h : WE S te ρ fun x => ∃ b, x = .bl b ∧ Q b) : WT S (tTest te) ρ Q := fun σ H R Qv k =>
  h σ H R _ fun v H1 x e1 q1 ⟨b, hx, hq⟩ => by
    subst hx
    exact ⟨b, dq_bl q1, k b H1 e1 hq⟩
theorem wt_B {Q : Bool → Prop} (h : WE S te ρ fun x => ∃ b, x = .bl b ∧ Q b) : WT S (tB te) ρ Q := fun σ H R Qv k =>
  h σ H R _ fun v H1 x e1 q1 ⟨b, hx, hq⟩ => by
    subst hx
    exact ⟨b, dq_bl q1, k b H1 e1 hq⟩
theorem wt_and {Q : Bool → Prop} (h : WT S t ρ fun b => if b = true then WT S u ρ Q else Q false) : WT S (tAnd t u) ρ Q := fun σ H R Qv k =>
  h σ H R _ fun b H1 e1 h2 => by
    cases b with
    | true => exact (show WT S u ρ Q from by simpa using h2) σ H1 (R.mono e1) Qv fun b H2 e2 hq => k b H2 (e1.trans e2) hq
    | false => exact k false H1 e1 (by simpa using h2)
theorem wt_or {Q : Bool → Prop} (h : WT S t ρ fun b => if b = true then Q true else WT S u ρ Q) : WT S (tOr t u) ρ Q := fun σ H R Qv k =>
  h σ H R _ fun b H1 e1 h2 => by
    cases b with
    | false => exact (show WT S u ρ Q from by simpa using h2) σ H1 (R.mono e1) Qv fun b H2 e2 hq => k b H2 (e1.trans e2) hq
    | true => exact k true H1 e1 (by simpa using h2)
theorem wt_not {Q : Bool → Prop} (h : WT S t ρ fun b => Q (!b)) : WT S (tNot t) ρ Q := fun σ H R Qv k => h σ H R _ fun b H1 e1 hq => k _ H1 e1 hq
/-- borrowing: an owned list read as data, for a result that cannot hold it -/
theorem we_borrow (i : Nat) {a : Addr} {xs : List D} {Q : D → Prop} (h : ρ[i]? = some (.own a (.lst xs))) (k : WE S te (ρ.set i (.d (.lst xs))) fun d => flatD d = true ∧ Q d) : WE S te ρ Q := fun σ H R Qv q =>
  k σ H (R.release h) Qv fun v H' d e r ⟨hf, hq⟩ => q v H' d e (r.flat hf) hq
theorem wt_borrow (i : Nat) {a : Addr} {xs : List D} {Q : Bool → Prop} (h : ρ[i]? = some (.own a (.lst xs))) (k : WT S t (ρ.set i (.d (.lst xs))) Q) : WT S t ρ Q := fun σ H R Qv q =>
  k σ H (R.release h) Qv q
end

/-! ### iterables -/
/-- J gives the data ds one by one, as long as vs stand as es -/
def DW (G : Gx) (J : It) (vs : List V) (es ds : List D) : Prop := ∀ Bh H, Alc Bh H → DqL G Bh H vs es → (∀ i, i < ds.length → J.go i H) ∧ J.stop ds.length H ∧ ∀ i x H', i < ds.length → J.yld i H x H' → Ex G H H' ∧ ∃ d, ds[i]? = some d ∧ Dq G Bh H' x d
def WI (S : Sc) (wi : TI) (ρ : List Sl) (Q : List D → Prop) : Prop := ∀ σ H, S.R H σ ρ → ∀ R : It → Hp → Prop, (∀ J H' vs es ds, Ex S.G H H' → S.ql ρ H' vs es → DW S.G J vs es ds → ds.length ≤ sizeLine → Q ds → R J H') → wi σ H R
/-! what every state knows: lists and tuples are within the line -/
def Sz (K : PySem.W.Frag) (H : Hp) : Prop := ∀ a xs, SqL K H a xs ∨ SqT K H a xs → xs.length ≤ sizeLine
def tKn (K : PySem.W.Frag) (t : TE) : TE := fun σ H Q => ∃ Q' : VK, t σ H Q' ∧ ∀ v H1, Sz K H1 → Q' v H1 → Q v H1
def tKnA (K : PySem.W.Frag) (t : TA) : TA := fun σ H Q => ∃ Q' : List V → Hp → Prop, t σ H Q' ∧ ∀ v H1, Sz K H1 → Q' v H1 → Q v H1
theorem sz_of {X : Cx} {pins : List (Addr × Obj)} {σ : L2.St} {H : Hp} {s : Shared} (I : Inv X pins σ H s) : Sz X.K H := fun a xs h => by
  rcases h with h | h
  · obtain ⟨its, rv, _, hz⟩ := I.list h
    exact hz
  · obtain ⟨its, rv, _, hz⟩ := I.tuple h
    exact hz
theorem pe_kn {X : Cx} {e : Expr} {t : TE} (he : PE X e t) : PE X e (tKn X.K t) := ⟨fun pins s σ H Q I ⟨Q', h, k⟩ => thn (he.run pins s σ H Q' I h) fun u s1 ⟨x, H1, I1, r1, q1⟩ => ⟨x, H1, I1, r1, k x H1 (sz_of I1) q1⟩⟩
theorem pa_kn {X : Cx} {es : List Expr} {t : TA} (he : PA X es t) : PA X es (tKnA X.K t) := ⟨fun pos pins s σ H Q I ⟨Q', h, k⟩ => thn (he.run pos pins s σ H Q' I h) fun u s1 ⟨x, H1, I1, r1, q1⟩ => ⟨x, H1, I1, r1, k x H1 (sz_of I1) q1⟩⟩
/-- a list or a tuple -/
def iSeq (K : PySem.W.Frag) (tl : TE) : TI := fun σ H R => tKn K tl σ H fun x H1 => ∃ a, x = .ref a ∧ (((∃ xs, SqL K H1 a xs) ∧ R (Itl K a) H1) ∨ ((∃ xs, SqT K H1 a xs) ∧ R (Itt K a) H1))
theorem pi_seq {X : Cx} {tg l : Expr} {tl : TE} (hl : PE X l tl) : PI X tg l (iSeq X.K tl) := by
  refine ⟨fun pins s σ H R I h => ?_⟩
  refine thn ((pe_kn hl).run pins s σ H _ I h) fun v s1 ⟨x, H1, I1, r1, q1⟩ => ?_
  obtain ⟨a, e, q | q⟩ := q1
  · subst e
    cases r1
    obtain ⟨⟨xs, hq⟩, q⟩ := q
    obtain ⟨its, rv, p, hz⟩ := I1.list hq
    refine wpAny_pyIter_list p.isList ?_
    refine ⟨s1.heap.objs.size, [s1.heap.objs.size], _, _, H1, rfl, I1.kept (t' := s1.toks) fun b o e => Heap.get?_push_of_some _ e, turn_list a _, ⟨_, Heap.get?_push_size _ rfl, rfl, rfl⟩, fun b hb => ?_, q⟩
    have e : b = s1.heap.objs.size := by simpa using hb
    subst e
    exact I1.fpOk (Nat.le_refl _) (I1.hok.fresh (Nat.le_refl _))
  · subst e
    cases r1
    obtain ⟨⟨xs, hq⟩, q⟩ := q
    obtain ⟨its, rv, p, hz⟩ := I1.tuple hq
    refine wpAny_pyIter_tuple (show s1.heap.IsTuple a its.toArray from p) ?_
    refine ⟨s1.heap.objs.size, [s1.heap.objs.size], _, _, H1, rfl, I1.kept (t' := s1.toks) fun b o e => Heap.get?_push_of_some _ e, turn_tuple a _, ⟨_, Heap.get?_push_size _ rfl, rfl, rfl⟩, fun b hb => ?_, q⟩
    have e : b = s1.heap.objs.size := by simpa using hb
    subst e
    exact I1.fpOk (Nat.le_refl _) (I1.hok.fresh (Nat.le_refl _))
def iZipK (K : PySem.W.Frag) (ta : TA) : TI := RZ.iZipA K (tKnA K ta)
theorem pi_zipK {X : Cx} {e e2 : Expr} {ta : TA} {p pos tpos : Pos} {elts : List Expr} {kk : Nat} (hg : Gl X "zip") (hm : X.mg "zip" = none) (ha : PA X [e, e2] ta)
    (hs : starEach [e, e2] X.env = (false, eval e X.env) :: starEach [e2] X.env := by rfl) (hpl : (backTo pos (starEach [e2] X.env)).any (·.1) = false := by rfl) :
    PI X (.Tuple elts kk tpos) (.Call (.Name "zip" p) [e, e2] [] pos) (iZipK X.K ta) := RZ.pi_zipA hg hm (pa_kn ha) hs hpl
def iEnumK (K : PySem.W.Frag) (ta : TA) : TI := iEnum K (tKnA K ta)
theorem pi_enumK {X : Cx} {e : Expr} {ta : TA} {p pos tpos : Pos} {elts : List Expr} {kk : Nat} (hg : Gl X "enumerate") (hm : X.mg "enumerate" = none) (ha : PA X [e] ta) (hs : starEach [e] X.env = [(false, eval e X.env)] := by rfl) :
    PI X (.Tuple elts kk tpos) (.Call (.Name "enumerate" p) [e] [] pos) (iEnumK X.K ta) := pi_enum hg hm (pa_kn ha) hs
section
variable {S : Sc} {ρ : List Sl} {te : TE} {ta : TA}
theorem we_kn {Q : D → Prop} (h : WE S te ρ Q) : ∀ σ H, S.R H σ ρ → ∀ Qv : VK, (∀ v H' d, Sz S.G.K H' → Ex S.G H H' → S.q ρ H' v d → Q d → Qv v H') → tKn S.G.K te σ H Qv := fun σ H R Qv k =>
  ⟨fun v H' => ∃ d, Ex S.G H H' ∧ S.q ρ H' v d ∧ Q d, h σ H R _ fun v H' d e q z => ⟨d, e, q, z⟩, fun v H1 sz ⟨d, e, q, z⟩ => k v H1 d sz e q z⟩
theorem wa_kn {Q : List D → Prop} (h : WA S ta ρ Q) : ∀ σ H, S.R H σ ρ → ∀ Qv : List V → Hp → Prop, (∀ v H' d, Sz S.G.K H' → Ex S.G H H' → S.ql ρ H' v d → Q d → Qv v H') → tKnA S.G.K ta σ H Qv := fun σ H R Qv k =>
  ⟨fun v H' => ∃ d, Ex S.G H H' ∧ S.ql ρ H' v d ∧ Q d, h σ H R _ fun v H' d e q z => ⟨d, e, q, z⟩, fun v H1 sz ⟨d, e, q, z⟩ => k v H1 d sz e q z⟩
/-- a list's or a tuple's items -/
def itemsD : D → Option (List D)
  | .lst ds => some ds
  | .tup ds => some ds
  | _ => none
theorem dw_list {G : Gx} {a : Addr} {ds : List D} : DW G (Itl G.K a) [.ref a] [.lst ds] ds := fun Bh H al h => by
  cases h with
  | cons h _ =>
    obtain ⟨b, xs, e, h1, n, r⟩ := dq_lst h
    cases e
    have l := r.length
    refine ⟨fun i hi => ?_, ⟨xs, SqL.of h1, by omega⟩, fun i x H' hi ⟨e, y⟩ => ?_⟩
    · exact ⟨xs, xs[i]'(by omega), SqL.of h1, by simp [show i < xs.length by omega]⟩
    · subst e
      obtain ⟨d, h2, h3⟩ := r.get' (y xs (SqL.of h1))
      exact ⟨Ex.refl _, d, h2, h3⟩
theorem dw_tup {G : Gx} {a : Addr} {ds : List D} : DW G (Itt G.K a) [.ref a] [.tup ds] ds := fun Bh H al h => by
  cases h with
  | cons h _ =>
    obtain ⟨b, xs, e, h1, r⟩ := dq_tup h
    cases e
    have l := r.length
    refine ⟨fun i hi => ?_, ⟨xs, h1, by omega⟩, fun i x H' hi ⟨e, y⟩ => ?_⟩
    · exact ⟨xs, xs[i]'(by omega), h1, by simp [show i < xs.length by omega]⟩
    · subst e
      obtain ⟨d, h2, h3⟩ := r.get' (y xs h1)
      exact ⟨Ex.refl _, d, h2, h3⟩
theorem wi_seq {Q : List D → Prop} (h : WE S te ρ fun d => ∃ ds, itemsD d = some ds ∧ Q ds) : WI S (iSeq S.G.K te) ρ Q := fun σ H R Rr k =>
  we_kn h σ H R _ fun v H' d sz e q ⟨ds, hd, z⟩ => by
    cases d with
    | lst es =>
      cases hd
      obtain ⟨a, xs, rfl, h1, n, r⟩ := dq_lst q
      have z1 := sz a xs (.inl (SqL.of h1))
      exact ⟨a, rfl, .inl ⟨⟨xs, SqL.of h1⟩, k _ H' _ _ ds e (.cons q .nil) dw_list (by rw [← r.length]; exact z1) z⟩⟩
    | tup es =>
      cases hd
      obtain ⟨a, xs, rfl, h1, r⟩ := dq_tup q
      have z1 := sz a xs (.inr h1)
      exact ⟨a, rfl, .inr ⟨⟨xs, h1⟩, k _ H' _ _ ds e (.cons q .nil) dw_tup (by rw [← r.length]; exact z1) z⟩⟩
    | _ => cases hd
/-- ints lo, lo + 1, .. -/
def rngD (lo : Int) (n : Nat) : List D := (List.range n).map fun (i : Nat) => D.int (lo + (i : Int))
theorem rngD_len (lo : Int) (n : Nat) : (rngD lo n).length = n := by simp [rngD]
theorem rngD_at {lo : Int} {n i : Nat} (h : i < n) : (rngD lo n)[i]? = some (.int (lo + (i : Int))) := by simp [rngD, h]
theorem dw_range {G : Gx} {lo : Int} {n : Nat} : DW G (Itr lo n) [] [] (rngD lo n) := fun Bh H al h => by
  refine ⟨fun i hi => by rw [rngD_len] at hi; exact hi, by rw [rngD_len]; exact Nat.le_refl _, fun i x H' hi ⟨e, y⟩ => ?_⟩
  rw [rngD_len] at hi
  subst e y
  exact ⟨Ex.refl _, _, rngD_at hi, .int _⟩
theorem wi_range1 {Q : List D → Prop} (h : WA S ta ρ fun xs => ∃ n : Int, xs = [.int n] ∧ 0 ≤ n ∧ n ≤ 100000 ∧ Q (rngD 0 n.toNat)) : WI S (iRng1 ta) ρ fun ds => Q ds := fun σ H R Rr k =>
  h σ H R _ fun vs H' ds e q ⟨n, hd, h0, hn, z⟩ => by
    subst hd
    have e1 : vs = [.int n] := dql_ints (ns := [n]) q
    subst e1
    have nl : n.toNat ≤ sizeLine := Nat.le_trans (by omega) (show 100000 ≤ sizeLine by decide)
    exact ⟨n, rfl, by omega, by omega, k _ H' [] [] _ e .nil dw_range (by rw [rngD_len]; exact nl) z⟩
theorem wi_range2 {Q : List D → Prop} (h : WA S ta ρ fun xs => ∃ lo n : Int, xs = [.int lo, .int n] ∧ 0 ≤ lo ∧ lo ≤ 100000 ∧ 0 ≤ n ∧ n ≤ 100000 ∧ Q (rngD lo (n - lo).toNat)) : WI S (iRng2 ta) ρ fun ds => Q ds := fun σ H R Rr k =>
  h σ H R _ fun vs H' ds e q ⟨lo, n, hd, g0, gn, h0, hn, z⟩ => by
    subst hd
    have e1 : vs = [.int lo, .int n] := dql_ints (ns := [lo, n]) q
    subst e1
    have nl : (n - lo).toNat ≤ sizeLine := Nat.le_trans (by omega) (show 100000 ≤ sizeLine by decide)
    exact ⟨lo, n, rfl, by omega, k _ H' [] [] _ e .nil dw_range (by rw [rngD_len]; exact nl) z⟩
end
end Sw
end

section
set_option Elab.async false
set_option autoImplicit false
set_option linter.all false
set_option maxRecDepth 100000
set_option maxHeartbeats 4000000
namespace Sw
open PySem PySem.Spec PyProof.Rows L2
section
variable {S : Sc} {ρ : List Sl} {te : TE} {ta : TA}
/-- pairs (x, y) -/
def pairD (p : D × D) : D := .tup [p.1, p.2]
theorem zip_at {α β : Type} {xs : List α} {ys : List β} {i : Nat} {x : α} {y : β} (hx : xs[i]? = some x) (hy : ys[i]? = some y) : (xs.zip ys)[i]? = some (x, y) := by
  rw [List.getElem?_zip_eq_some]
  exact ⟨hx, hy⟩
theorem dw_zip {G : Gx} {a b : Addr} {ds es : List D} : DW G (Itz G.K a b) [.ref a, .ref b] [.lst ds, .lst es] ((ds.zip es).map pairD) := fun Bh H al h => by
  cases h with
  | cons h hh =>
    cases hh with
    | cons h' _ =>
      obtain ⟨_, xs, e, h1, n, r⟩ := dq_lst h
      cases e
      obtain ⟨_, ys, e, h2, n2, r2⟩ := dq_lst h'
      cases e
      have l := r.length
      have l2 := r2.length
      have ll : ((ds.zip es).map pairD).length = min ds.length es.length := by simp
      refine ⟨fun i hi => ?_, ⟨xs, ys, SqL.of h1, SqL.of h2, by omega⟩, fun i x H' hi ⟨T, u, v, ex, hT, eH, k1, k2⟩ => ?_⟩
      · rw [ll] at hi
        exact ⟨xs, ys, xs[i]'(by omega), ys[i]'(by omega), SqL.of h1, SqL.of h2, by simp [show i < xs.length by omega], by simp [show i < ys.length by omega]⟩
      · subst ex eH
        obtain ⟨d, g1, g2⟩ := r.get' (k1 xs (SqL.of h1))
        obtain ⟨d', g3, g4⟩ := r2.get' (k2 ys (SqL.of h2))
        refine ⟨Ex.new hT, .tup [d, d'], ?_, .tup (SqT.of upd_same) (.cons (g2.mono (Ex.new hT)) (.cons (g4.mono (Ex.new hT)) .nil))⟩
        rw [List.getElem?_map, zip_at g1 g3] <;> rfl
theorem dw_zipT {G : Gx} {a b : Addr} {ds es : List D} : DW G (RZ.ItzT G.K a b) [.ref a, .ref b] [.tup ds, .tup es] ((ds.zip es).map pairD) := fun Bh H al h => by
  cases h with
  | cons h hh =>
    cases hh with
    | cons h' _ =>
      obtain ⟨_, xs, e, h1, r⟩ := dq_tup h
      cases e
      obtain ⟨_, ys, e, h2, r2⟩ := dq_tup h'
      cases e
      have l := r.length
      have l2 := r2.length
      have ll : ((ds.zip es).map pairD).length = min ds.length es.length := by simp
      refine ⟨fun i hi => ?_, ⟨xs, ys, h1, h2, by omega⟩, fun i x H' hi ⟨T, u, v, ex, hT, eH, k1, k2⟩ => ?_⟩
      · rw [ll] at hi
        exact ⟨xs, ys, xs[i]'(by omega), ys[i]'(by omega), h1, h2, by simp [show i < xs.length by omega], by simp [show i < ys.length by omega]⟩
      · subst ex eH
        obtain ⟨d, g1, g2⟩ := r.get' (k1 xs h1)
        obtain ⟨d', g3, g4⟩ := r2.get' (k2 ys h2)
        refine ⟨Ex.new hT, .tup [d, d'], ?_, .tup (SqT.of upd_same) (.cons (g2.mono (Ex.new hT)) (.cons (g4.mono (Ex.new hT)) .nil))⟩
        rw [List.getElem?_map, zip_at g1 g3] <;> rfl
/-- two lists, or two tuples -/
def zipD : List D → Option (List D × List D)
  | [.lst xs, .lst ys] => some (xs, ys)
  | [.tup xs, .tup ys] => some (xs, ys)
  | _ => none
theorem wi_zip {Q : List D → Prop} (h : WA S ta ρ fun xs => ∃ a b, zipD xs = some (a, b) ∧ Q ((a.zip b).map pairD)) : WI S (iZipK S.G.K ta) ρ Q := fun σ H R Rr k =>
  wa_kn h σ H R _ fun vs H' d sz e q ⟨x, y, hd, z⟩ => by
    have ll : ((x.zip y).map pairD).length ≤ x.length := by simp; omega
    obtain ⟨dx, dy, rfl⟩ : ∃ dx dy, d = [dx, dy] := by
      unfold zipD at hd
      split at hd <;> first | exact ⟨_, _, rfl⟩ | cases hd
    cases q with
    | cons q qq =>
      cases qq with
      | cons q' qq =>
        cases qq
        unfold zipD at hd
        split at hd
        · rename_i xs ys e3
          injection e3 with e4 e5
          injection e5 with e5 _
          subst e4 e5
          cases hd
          obtain ⟨a, us, rfl, h1, n, r⟩ := dq_lst q
          obtain ⟨b, ws, rfl, h2, n2, r2⟩ := dq_lst q'
          have z1 := sz a us (.inl (SqL.of h1))
          exact ⟨a, b, us, ws, rfl, .inl ⟨SqL.of h1, SqL.of h2, k _ H' _ _ _ e (.cons q (.cons q' .nil)) dw_zip (by rw [r.length] at z1; omega) z⟩⟩
        · rename_i xs ys e3
          injection e3 with e4 e5
          injection e5 with e5 _
          subst e4 e5
          cases hd
          obtain ⟨a, us, rfl, h1, r⟩ := dq_tup q
          obtain ⟨b, ws, rfl, h2, r2⟩ := dq_tup q'
          have z1 := sz a us (.inr h1)
          exact ⟨a, b, us, ws, rfl, .inr ⟨h1, h2, k _ H' _ _ _ e (.cons q (.cons q' .nil)) dw_zipT (by rw [r.length] at z1; omega) z⟩⟩
        · cases hd
/-- (0, x), (1, y), .. -/
def enumD (ds : List D) : List D := ds.zipIdx.map fun p => .tup [.int (p.2 : Nat), p.1]
theorem dw_enum {G : Gx} {a : Addr} {ds : List D} : DW G (Ite G.K a) [.ref a] [.lst ds] (enumD ds) := fun Bh H al h => by
  cases h with
  | cons h _ =>
    obtain ⟨_, xs, e, h1, n, r⟩ := dq_lst h
    cases e
    have l := r.length
    have ll : (enumD ds).length = ds.length := by simp [enumD]
    refine ⟨fun i hi => ?_, ⟨xs, SqL.of h1, by omega⟩, fun i x H' hi ⟨T, u, ex, hT, eH, k1⟩ => ?_⟩
    · rw [ll] at hi
      exact ⟨xs, xs[i]'(by omega), SqL.of h1, by simp [show i < xs.length by omega]⟩
    · subst ex eH
      obtain ⟨d, g1, g2⟩ := r.get' (k1 xs (SqL.of h1))
      refine ⟨Ex.new hT, .tup [.int (i : Nat), d], ?_, .tup (SqT.of upd_same) (.cons (.int _) (.cons (g2.mono (Ex.new hT)) .nil))⟩
      unfold enumD
      rw [List.getElem?_map, List.getElem?_zipIdx, g1]
      simp
theorem wi_enum {Q : List D → Prop} (h : WA S ta ρ fun xs => ∃ a, xs = [.lst a] ∧ Q (enumD a)) : WI S (iEnumK S.G.K ta) ρ Q := fun σ H R Rr k =>
  wa_kn h σ H R _ fun vs H' d sz e q ⟨x, hd, z⟩ => by
    subst hd
    cases q with
    | cons q qq =>
      cases qq
      obtain ⟨a, xs, rfl, h1, n, r⟩ := dq_lst q
      have z1 := sz a xs (.inl (SqL.of h1))
      exact ⟨a, xs, rfl, SqL.of h1, k _ H' _ _ _ e (.cons q .nil) dw_enum (by rw [r.length] at z1; simpa [enumD] using z1) z⟩
/-- a text's signs -/
def signsD (z : Str) : List D := z.cps.toList.map fun c => .str ⟨#[c]⟩
theorem dw_str {G : Gx} {z : Str} : DW G (Its z) [] [] (signsD z) := fun Bh H al h => by
  have ll : (signsD z).length = z.cps.size := by simp [signsD]
  refine ⟨fun i hi => by rw [ll] at hi; exact hi, by rw [ll]; exact Nat.le_refl _, fun i x H' hi ⟨e, c, hc, y⟩ => ?_⟩
  subst e y
  refine ⟨Ex.refl _, .str ⟨#[c]⟩, ?_, .str _⟩
  unfold signsD
  rw [List.getElem?_map, Array.getElem?_toList, hc] <;> rfl
theorem wi_str {Q : List D → Prop} (h : WE S te ρ fun x => ∃ z, x = .str z ∧ z.length ≤ 100000 ∧ Q (signsD z)) : WI S (iStr te) ρ Q := fun σ H R Rr k =>
  h σ H R _ fun v H' d e q ⟨z, hd, hn, hq⟩ => by
    subst hd
    exact ⟨z, dq_str q, k _ H' [] [] _ e .nil dw_str (by
      have : (signsD z).length = z.length := by simp [signsD, Str.length]
      rw [this]
      exact Nat.le_trans hn (by decide)) hq⟩
end

/-! ### statements -/
structure DE where
  nx : List Sl → Prop
  rt : D → Prop
  bk : List Sl → Prop := fun _ => False
  ct : List Sl → Prop := fun _ => False
/-- all that was data is data -/
def Keep (G : Gx) (B : Addr → Prop) (H : Hp) (ρ : List Sl) (H' : Hp) (ρ' : List Sl) : Prop := ∀ v d, Dq G (hid B ρ) H v d → Dq G (hid B ρ') H' v d
theorem Keep.l {G : Gx} {B : Addr → Prop} {H H' : Hp} {ρ ρ' : List Sl} (k : Keep G B H ρ H' ρ') : ∀ {vs : List V} {ds : List D}, DqL G (hid B ρ) H vs ds → DqL G (hid B ρ') H' vs ds
  | _, _, .nil => .nil
  | _, _, .cons h r => .cons (k _ _ h) (k.l r)
theorem Keep.refl {G : Gx} {B : Addr → Prop} {H : Hp} {ρ : List Sl} : Keep G B H ρ H ρ := fun _ _ h => h
theorem Keep.trans {G : Gx} {B : Addr → Prop} {H H1 H2 : Hp} {ρ ρ1 ρ2 : List Sl} (a : Keep G B H ρ H1 ρ1) (b : Keep G B H1 ρ1 H2 ρ2) : Keep G B H ρ H2 ρ2 := fun v d h => b v d (a v d h)
theorem Keep.of {G : Gx} {B : Addr → Prop} {H H1 : Hp} {ρ : List Sl} (e : Ex G H H1) : Keep G B H ρ H1 ρ := fun v d h => h.mono e
structure Lk (S : Sc) (E : DE) (H : Hp) (ρ : List Sl) (Dv : Ends) : Prop where
  nx : ∀ σ' H' ρ', S.R H' σ' ρ' → Keep S.G S.B H ρ H' ρ' → E.nx ρ' → Dv.nx σ' H'
  rt : ∀ v H' d, Ex S.G S.H0 H' → Dq S.G S.B H' v d → E.rt d → Dv.rt v H'
  bk : ∀ σ' H' ρ', S.R H' σ' ρ' → Keep S.G S.B H ρ H' ρ' → E.bk ρ' → Dv.bk σ' H'
  ct : ∀ σ' H' ρ', S.R H' σ' ρ' → Keep S.G S.B H ρ H' ρ' → E.ct ρ' → Dv.ct σ' H'
def WS (S : Sc) (ts : TS) (ρ : List Sl) (E : DE) : Prop := ∀ σ H Dv, S.R H σ ρ → Lk S E H ρ Dv → ts Dv σ H
/-- storing a value: js the slots that are stored -/
def WG (S : Sc) (g : TG) (js : List Nat) (d : D) (ρ : List Sl) (Q : List Sl → Prop) : Prop := ∀ σ H v, S.R H σ ρ → S.q ρ H v d → ∀ Qs : L2.St → Hp → Prop,
  (∀ σ' H' ρ', S.R H' σ' ρ' → Ex S.G H H' → (∀ a, hid S.B ρ' a → hid S.B ρ a) → (∀ vs : List Nat, (∀ j ∈ js, j ∈ vs) → wipe σ' vs = wipe σ vs) → Q ρ' → Qs σ' H') → g v σ H Qs
section
variable {S : Sc} {ρ : List Sl} {te tb to ti : TE} {ta : TA} {t u : TS} {c : TT} {E : DE}
theorem hid_set_d (i : Nat) (d : D) (a : Addr) (q : hid S.B (ρ.set i (.d d)) a) : hid S.B ρ a := by
  rcases q with q | q
  · exact .inl q
  · rcases owns_set_sub q with q | q
    · exact .inr q
    · simp [Sl.ads] at q
theorem Lk.step {H H' : Hp} {ρ' : List Sl} {Dv : Ends} (l : Lk S E H ρ Dv) (k : Keep S.G S.B H ρ H' ρ') : Lk S E H' ρ' Dv :=
  ⟨fun σ2 H2 ρ2 R k2 => l.nx σ2 H2 ρ2 R (k.trans k2), l.rt, fun σ2 H2 ρ2 R k2 => l.bk σ2 H2 ρ2 R (k.trans k2), fun σ2 H2 ρ2 R k2 => l.ct σ2 H2 ρ2 R (k.trans k2)⟩
theorem WS.mono {E' : DE} (h : WS S t ρ E) (h1 : ∀ r, E.nx r → E'.nx r) (h2 : ∀ d, E.rt d → E'.rt d) (h3 : ∀ r, E.bk r → E'.bk r) (h4 : ∀ r, E.ct r → E'.ct r) : WS S t ρ E' := fun σ H Dv R l =>
  h σ H Dv R ⟨fun σ' H' ρ' r k q => l.nx σ' H' ρ' r k (h1 _ q), fun v H' d e r q => l.rt v H' d e r (h2 _ q), fun σ' H' ρ' r k q => l.bk σ' H' ρ' r k (h3 _ q), fun σ' H' ρ' r k q => l.ct σ' H' ρ' r k (h4 _ q)⟩
theorem ws_next (h : E.nx ρ) : WS S tNext ρ E := fun σ H Dv R l => l.nx σ H ρ R Keep.refl h
theorem ws_break (h : E.bk ρ) : WS S tBreak ρ E := fun σ H Dv R l => l.bk σ H ρ R Keep.refl h
theorem ws_cont (h : E.ct ρ) : WS S tCont ρ E := fun σ H Dv R l => l.ct σ H ρ R Keep.refl h
theorem ws_seq (h : WS S t ρ { E with nx := fun ρ' => WS S u ρ' E }) : WS S (tSeq t u) ρ E := fun σ H Dv R l =>
  h σ H { Dv with nx := u Dv } R ⟨fun σ' H' ρ' R' k q => q σ' H' Dv R' (l.step k), l.rt, l.bk, l.ct⟩
theorem ws_if (h : WT S c ρ fun b => if b = true then WS S t ρ E else WS S u ρ E) : WS S (tIfS c t u) ρ E := fun σ H Dv R l =>
  h σ H R _ fun b H' e q => by
    cases b with
    | true => exact (show WS S t ρ E from by simpa using q) σ H' Dv (R.mono e) (l.step (.of e))
    | false => exact (show WS S u ρ E from by simpa using q) σ H' Dv (R.mono e) (l.step (.of e))
theorem ws_ret (h : WE S te ρ E.rt) : WS S (tRet te) ρ E := fun σ H Dv R l =>
  h σ H R _ fun v H' d e q z => l.rt v H' d (R.ex.trans e) (q.less fun a b => .inl b) z
theorem ws_retN (h : E.rt .non) : WS S tRetN ρ E := fun σ H Dv R l => l.rt _ H .non R.ex .non h
theorem ws_drop (h : WE S te ρ fun _ => E.nx ρ) : WS S (tDrop te) ρ E := fun σ H Dv R l =>
  h σ H R _ fun v H' d e q z => l.nx σ H' ρ (R.mono e) (.of e) z
theorem ws_never : (h : False) → WS S tNever ρ E := fun h => h.elim
/-! storing -/
theorem wipe_set_in {σ : L2.St} {j : Nat} {o : Option V} : ∀ {vs : List Nat}, j ∈ vs → wipe (σ.set j o) vs = wipe σ vs
  | [], h => by simp at h
  | v :: vs, h => by
    by_cases hv : j = v
    · subst hv
      by_cases hm : j ∈ vs
      · show (wipe (σ.set j o) vs).set j none = (wipe σ vs).set j none
        rw [wipe_set_in hm]
      · show (wipe (σ.set j o) vs).set j none = (wipe σ vs).set j none
        rw [wipe_set_out hm, List.set_set]
    · have hm : j ∈ vs := by
        rcases List.mem_cons.mp h with e | e
        · exact absurd e hv
        · exact e
      show (wipe (σ.set j o) vs).set v none = (wipe σ vs).set v none
      rw [wipe_set_in hm]
where
  wipe_set_out {σ : L2.St} {j : Nat} {o : Option V} : ∀ {vs : List Nat}, j ∉ vs → wipe (σ.set j o) vs = (wipe σ vs).set j o
    | [], _ => rfl
    | v :: vs, h => by
      have h1 : j ≠ v := fun e => h (by simp [e])
      have h2 : j ∉ vs := fun e => h (by simp [e])
      show (wipe (σ.set j o) vs).set v none = ((wipe σ vs).set v none).set j o
      rw [wipe_set_out h2, List.set_comm _ _ h1]
theorem wg_name {j : Nat} {d : D} {Q : List Sl → Prop} (h : Q (ρ.set j (.d d))) : WG S (gName j) [j] d ρ Q := fun σ H v R q Qs k =>
  k _ H _ (R.set j q) (Ex.refl H) (hid_set_d j d) (fun vs hv => wipe_set_in (hv j (by simp))) h
/-- several targets -/
def WGs (S : Sc) (g : TGs) (js : List Nat) (ds : List D) (ρ : List Sl) (Q : List Sl → Prop) : Prop := ∀ σ H vs, S.R H σ ρ → S.ql ρ H vs ds → ∀ Qs : L2.St → Hp → Prop,
  (∀ σ' H' ρ', S.R H' σ' ρ' → Ex S.G H H' → (∀ a, hid S.B ρ' a → hid S.B ρ a) → (∀ vs : List Nat, (∀ j ∈ js, j ∈ vs) → wipe σ' vs = wipe σ vs) → Q ρ' → Qs σ' H') → g vs σ H Qs
theorem wgs_nil {Q : List Sl → Prop} (h : Q ρ) : WGs S gNil [] [] ρ Q := fun σ H vs R q Qs k => by
  cases q
  exact ⟨rfl, k σ H ρ R (Ex.refl H) (fun a h => h) (fun _ _ => rfl) h⟩
theorem wgs_cons {g : TG} {gs : TGs} {js ks : List Nat} {d : D} {ds : List D} {Q : List Sl → Prop} (h : WG S g js d ρ fun ρ' => WGs S gs ks ds ρ' Q) : WGs S (gCons g gs) (js ++ ks) (d :: ds) ρ Q := fun σ H vs R q Qs k => by
  cases q with
  | cons q qs =>
    refine ⟨_, _, rfl, h σ H _ R q _ fun σ' H' ρ' R' e hs w z => ?_⟩
    refine z σ' H' _ R' ((qs.mono e).less hs) Qs fun σ2 H2 ρ2 R2 e2 hs2 w2 z2 => ?_
    exact k σ2 H2 ρ2 R2 (e.trans e2) (fun a q => hs a (hs2 a q)) (fun vs hv => (w2 vs fun j hj => hv j (List.mem_append_right _ hj)).trans (w vs fun j hj => hv j (List.mem_append_left _ hj))) z2
theorem wg_tup {n : Nat} {gs : TGs} {js : List Nat} {ds : List D} {Q : List Sl → Prop} (hn : ds.length = n) (h : WGs S gs js ds ρ Q) : WG S (gTup S.G.K n gs) js (.tup ds) ρ Q := fun σ H v R q Qs k => by
  obtain ⟨a, xs, rfl, h1, r⟩ := dq_tup q
  exact ⟨a, xs, rfl, h1, by rw [r.length]; exact hn, h σ H xs R r Qs k⟩
theorem ws_asgG {g : TG} {js : List Nat} (h : WE S te ρ fun d => WG S g js d ρ E.nx) : WS S (tAsg te g) ρ E := fun σ H Dv R l =>
  h σ H R _ fun v H' d e q z => z σ H' v (R.mono e) q _ fun σ' H2 ρ' R' e2 hs w z2 => l.nx σ' H2 ρ' R' (fun v d hd => (hd.mono (e.trans e2)).less hs) z2
theorem ws_asg {i : Nat} (h : WE S te ρ fun d => E.nx (ρ.set i (.d d))) : WS S (tAsg te (gName i)) ρ E := ws_asgG (js := [i]) (h.mono fun d q => wg_name q)
/-- a new list, owned from now on -/
theorem Rho.setN {G : Gx} {B : Addr → Prop} {H0 H H' : Hp} {σ : L2.St} (R : Rho G B H0 H σ ρ) (e : Ex G H H') {p : Addr} {vs : List V} {ds : List D} (n : H p = none) (hp : H' p = some (.lst vs)) (q : DqL G (wth (hid B ρ) p) H' vs ds) (i : Nat) :
    Rho G B H0 H' (σ.set i (some (.ref p))) (ρ.set i (.own p (.lst ds))) ∧ Keep G B H ρ H' (ρ.set i (.own p (.lst ds))) := by
  have np : ¬ hid B ρ p := R.alc.fresh n
  have sub : ∀ a, hid B (ρ.set i (.own p (.lst ds))) a → hid B ρ a ∨ a = p := fun a q => by
    rcases q with q | q
    · exact .inl (.inl q)
    · rcases owns_set_sub q with q | q
      · exact .inl (.inr q)
      · exact .inr (by simpa [Sl.ads, OC.more] using q)
  have lt : ∀ a, H a ≠ none → hid B (ρ.set i (.own p (.lst ds))) a → hid B ρ a := fun a ha hb => by
    rcases sub a hb with z | z
    · exact z
    · subst z
      exact absurd n ha
  have R2 := R.mono e
  refine ⟨⟨R2.tb, R2.ex, R2.bs, (fun a q => by
    rcases owns_set_sub q with q | q
    · exact R.nb a q
    · have e2 : a = p := by simpa [Sl.ads, OC.more] using q
      subst e2
      exact fun z => R.bs a z n), by simpa using R2.len, fun j s es => ?_, fun a q => ?_, fun a q => ?_, owns_set_nodup R2.dis (by simp [Sl.ads, OC.more]) ?_⟩, fun v d h => (h.lessT lt).mono e⟩
  · by_cases hj : i = j
    · subst hj
      have hlt : i < ρ.length := by
        have := (List.getElem?_eq_some_iff.mp es).1
        simpa using this
      rw [List.getElem?_set_self hlt] at es
      cases es
      exact ⟨_, List.getElem?_set_self (by rw [R.len]; exact hlt), rfl, vs, hp, q.less fun a z => sub a z⟩
    · rw [List.getElem?_set_ne hj] at es
      obtain ⟨o, h1, h2⟩ := R.at_ j s es
      exact ⟨o, by rw [List.getElem?_set_ne hj]; exact h1, (h2.lessT lt).mono e⟩
  · rcases owns_set_sub q with q | q
    · exact R2.own a q
    · have e2 : a = p := by simpa [Sl.ads, OC.more] using q
      subst e2
      exact nf R.ex n
  · rcases owns_set_sub q with q | q
    · exact R2.tr a q
    · have e2 : a = p := by simpa [Sl.ads, OC.more] using q
      subst e2
      rw [hp]
      exact fun z => nomatch z
  · intro a ha hb
    have e2 : a = p := by simpa [Sl.ads, OC.more] using ha
    subst e2
    exact np (.inr hb)
end
end Sw
end

section
set_option Elab.async false
set_option autoImplicit false
set_option linter.all false
set_option maxRecDepth 100000
set_option maxHeartbeats 4000000
namespace Sw
open PySem PySem.Spec PyProof.Rows L2
theorem owns_two {ρ : List Sl} {i j : Nat} {s t : Sl} {a : Addr} (nd : (owns ρ).Nodup) (hi : ρ[i]? = some s) (hj : ρ[j]? = some t) (ne : i ≠ j) (ha : a ∈ s.ads) (hb : a ∈ t.ads) : False := by
  induction ρ generalizing i j with
  | nil => simp at hi
  | cons u ρ ih =>
    have nd' : (u.ads ++ owns ρ).Nodup := by simpa [owns] using nd
    obtain ⟨n1, n2, n3⟩ := List.nodup_append.mp nd'
    cases i with
    | zero =>
      cases j with
      | zero => exact ne rfl
      | succ j =>
        have e : u = s := by simpa using hi
        subst e
        exact n3 a ha a (mem_owns (show ρ[j]? = some t by simpa using hj) hb) rfl
    | succ i =>
      cases j with
      | zero =>
        have e : u = t := by simpa using hj
        subst e
        exact n3 a hb a (mem_owns (show ρ[i]? = some s by simpa using hi) ha) rfl
      | succ j => exact ih n2 (by simpa using hi) (by simpa using hj) (fun e => ne (congrArg Nat.succ e))
theorem owns_set_ads {s t : Sl} : ∀ {ρ : List Sl} {i : Nat}, ρ[i]? = some s → t.ads = s.ads → owns (ρ.set i t) = owns ρ
  | [], _, h, _ => by simp at h
  | u :: ρ, 0, h, e => by
    have e1 : u = s := by simpa using h
    subst e1
    simp [owns, e]
  | u :: ρ, i + 1, h, e => by
    have h1 := owns_set_ads (ρ := ρ) (i := i) (by simpa using h) e
    simp only [owns, List.set_cons_succ, List.flatMap_cons] at h1 ⊢
    rw [h1]
section
variable {G : Gx} {B : Addr → Prop} {H0 H : Hp} {σ : L2.St} {ρ : List Sl}
theorem ext_upd {Bh : Addr → Prop} {b : Addr} {o o' : HO} (hb : Bh b) (h : H b = some o) (w : Wr o) : Ext Bh H (upd H b o') := fun a u ha _ hu => by
  by_cases e : a = b
  · subst e
    rw [h] at ha
    cases ha
    rcases hu hb with ⟨xs, e⟩ | ⟨ob, xs, e⟩ | ⟨φ, e⟩ <;> (subst e; exact w.elim)
  · rw [upd_ne e]
    exact ha
theorem OCok.ext {Bh : Addr → Prop} {b : Addr} {o o' : HO} (hb : Bh b) (h : H b = some o) (w : Wr o) {a : Addr} : ∀ {c : OC}, (b ∉ (Sl.own a c).ads) → OCok G Bh H a c → OCok G Bh (upd H b o') a c
  | .lst xs, n, ⟨vs, h1, r⟩ => ⟨vs, by rw [upd_ne (fun e => n (by subst e; simp [Sl.ads]))]; exact h1, r.ext (ext_upd hb h w)⟩
  | .dK kvs, n, ⟨ks, h1, k, r⟩ => ⟨ks, by rw [upd_ne (fun e => n (by subst e; simp [Sl.ads]))]; exact h1, k, r.ext (ext_upd hb h w)⟩
  | .dT kvs, n, ⟨ks, h1, k, r⟩ => ⟨ks, by rw [upd_ne (fun e => n (by subst e; simp [Sl.ads]))]; exact h1, k, r.ext (ext_upd hb h w)⟩
  | .ins C dx fs, n, ⟨ks, h1, k, r⟩ => ⟨ks, by rw [upd_ne (fun e => n (by subst e; simp [Sl.ads]))]; exact h1, k, r.ext (ext_upd hb h w)⟩
  | .dL rows, n, ⟨h1, r⟩ => ⟨by rw [upd_ne (fun e => n (by subst e; simp [Sl.ads]))]; exact h1, fun x hx => by
    obtain ⟨vs, h2, h3⟩ := r x hx
    refine ⟨vs, by rw [upd_ne (fun e => n (by subst e; simp only [Sl.ads, OC.more, List.mem_cons, List.mem_map]; exact .inr ⟨x, hx, rfl⟩))]; exact h2, h3.ext (ext_upd hb h w)⟩⟩
/-- an owned object is written -/
theorem Rho.write (R : Rho G B H0 H σ ρ) {i : Nat} {a b : Addr} {c c' : OC} {o o' : HO} (hi : ρ[i]? = some (.own a c)) (hb : b ∈ (Sl.own a c).ads) (h : H b = some o) (w : Wr o) (ha : (Sl.own a c').ads = (Sl.own a c).ads)
    (hc : OCok G (hid B ρ) (upd H b o') a c') : Rho G B H0 (upd H b o') σ (ρ.set i (.own a c')) ∧ Keep G B H ρ (upd H b o') (ρ.set i (.own a c')) := by
  have eo : owns (ρ.set i (.own a c')) = owns ρ := owns_set_ads hi ha
  have eh : hid B (ρ.set i (.own a c')) = hid B ρ := by
    funext x
    unfold hid
    rw [eo]
  have hbo : b ∈ owns ρ := mem_owns hi hb
  have x := ext_upd (Bh := hid B ρ) (o' := o') (.inr hbo) h w
  refine ⟨⟨G.tbw _ _ _ _ h w R.tb, ⟨fun p u hp n => ?_, fun p q => ?_, fun _ => G.tbw _ _ _ _ h w R.tb⟩, (fun p q => ?_), (fun p q => R.nb p (by rw [← eo]; exact q)), by simpa using R.len, fun j s es => ?_, fun p q => R.own p (by rw [← eo]; exact q), fun p q => ?_, by rw [eo]; exact R.dis⟩, fun v d hd => by rw [eh]; exact hd.ext x⟩
  · by_cases e : p = b
    · subst e
      rw [R.own p hbo] at hp
      cases hp
    · rw [upd_ne e]
      exact R.ex.k p u hp n
  · by_cases e : p = b
    · subst e
      rw [upd_same] at q
      cases q
    · rw [upd_ne e] at q
      exact R.ex.s p q
  · by_cases e : p = b
    · subst e
      rw [upd_same]
      exact fun z => nomatch z
    · rw [upd_ne e]
      exact R.bs p q
  · rw [eh]
    by_cases hj : i = j
    · subst hj
      have hlt : i < ρ.length := (List.getElem?_eq_some_iff.mp hi).1
      rw [List.getElem?_set_self hlt] at es
      cases es
      exact ⟨_, (R.varO hi).1, rfl, hc⟩
    · rw [List.getElem?_set_ne hj] at es
      obtain ⟨u, h1, h2⟩ := R.at_ j s es
      refine ⟨u, h1, ?_⟩
      cases s with
      | no => trivial
      | d y =>
        obtain ⟨v, e1, e2⟩ := h2
        exact ⟨v, e1, e2.ext x⟩
      | own p cc =>
        obtain ⟨e1, e2⟩ := h2
        exact ⟨e1, e2.ext (.inr hbo) h w fun z => owns_two R.dis hi es hj hb z⟩
  · by_cases e : p = b
    · subst e
      rw [upd_same]
      exact fun z => nomatch z
    · rw [upd_ne e]
      exact R.tr p (by rw [← eo]; exact q)
end
section
variable {S : Sc} {ρ : List Sl} {te tb to ti : TE} {ta : TA} {t u : TS} {c : TT} {E : DE}
/-- x = a new list, owned from now on -/
theorem ws_asgN {i : Nat} (h : WN S te ρ fun ds => ∀ p, E.nx (ρ.set i (.own p (.lst ds)))) : WS S (tAsg te (gName i)) ρ E := fun σ H Dv R l =>
  h σ H R _ fun p H' vs ds n e hp q z => by
    obtain ⟨R2, k⟩ := R.setN e n hp q i
    exact l.nx _ H' _ R2 k (z p)
/-- giving an owned list up -/
theorem ws_release (i : Nat) {a : Addr} {xs : List D} (h : ρ[i]? = some (.own a (.lst xs))) (k : WS S t (ρ.set i (.d (.lst xs))) E) : WS S t ρ E := fun σ H Dv R l =>
  k σ H Dv (R.release h) (l.step fun v d q => q.less fun b z => by
    rcases z with z | z
    · exact .inl z
    · rcases owns_set_sub z with z | z
      · exact .inr z
      · simp [Sl.ads] at z)
/-- the owned list at slot i becomes ws -/
theorem Rho.lst {G : Gx} {B : Addr → Prop} {H0 H : Hp} {σ : L2.St} (R : Rho G B H0 H σ ρ) {i : Nat} {a : Addr} {xs ys : List D} {vs : List V} (hi : ρ[i]? = some (.own a (.lst xs))) (q : DqL G (hid B ρ) H vs ys) :
    Rho G B H0 (upd H a (.lst vs)) σ (ρ.set i (.own a (.lst ys))) ∧ Keep G B H ρ (upd H a (.lst vs)) (ρ.set i (.own a (.lst ys))) := by
  obtain ⟨h1, us, h2, h3⟩ := R.varO hi
  have hb : a ∈ (Sl.own a (.lst xs)).ads := by simp [Sl.ads]
  exact R.write hi hb h2 trivial rfl ⟨vs, upd_same, q.ext (ext_upd (.inr (mem_owns hi hb)) h2 trivial)⟩
/-- xs.append(e) -/
theorem ws_app {i : Nat} {a : Addr} {xs : List D} (hi : ρ[i]? = some (.own a (.lst xs))) (hz : xs.length < 100000) (h : WE S te ρ fun d => E.nx (ρ.set i (.own a (.lst (xs ++ [d]))))) :
    WS S (tDrop (tBM S.G.K "list" rAppend (tVar i) (tCons te tNil))) ρ E := fun σ H Dv R l => by
  obtain ⟨h1, us, h2, h3⟩ := R.varO hi
  refine ⟨.ref a, h1, .inl ⟨rfl, us, SqL.of h2⟩, h σ H R _ fun v H' d e q z => ?_⟩
  have h2' := e.at h2
  have R' := R.mono e
  obtain ⟨R2, k⟩ := R'.lst (vs := us ++ [v]) (ys := xs ++ [d]) hi ((h3.mono e).append (.cons q .nil))
  exact ⟨a, us, v, rfl, rfl, h2', Nat.lt_of_lt_of_le (by rw [h3.length]; exact hz) (show 100000 ≤ sizeLine by decide), l.nx _ _ _ R2 ((Keep.of e).trans k) z⟩
/-- xs.extend(ys), ys data -/
theorem ws_ext {i : Nat} {a : Addr} {xs : List D} (hi : ρ[i]? = some (.own a (.lst xs))) (h : WE S te ρ fun d => ∃ ys, d = .lst ys ∧ xs.length + ys.length ≤ 100000 ∧ E.nx (ρ.set i (.own a (.lst (xs ++ ys))))) :
    WS S (tDrop (tBM S.G.K "list" rExtend (tVar i) (tCons te tNil))) ρ E := fun σ H Dv R l => by
  obtain ⟨h1, us, h2, h3⟩ := R.varO hi
  refine ⟨.ref a, h1, .inl ⟨rfl, us, SqL.of h2⟩, h σ H R _ fun v H' d e q ⟨ys, ed, hz, z⟩ => ?_⟩
  subst ed
  obtain ⟨b, ws, rfl, hb, nb, r⟩ := dq_lst q
  have h2' := e.at h2
  obtain ⟨R2, k⟩ := (R.mono e).lst (vs := us ++ ws) (ys := xs ++ ys) hi ((h3.mono e).append r)
  exact ⟨a, b, us, ws, rfl, rfl, h2', hb, Nat.le_trans (by rw [h3.length, r.length]; exact hz) (show 100000 ≤ sizeLine by decide), l.nx _ _ _ R2 ((Keep.of e).trans k) z⟩
/-- xs[k] = e -/
theorem ws_setI {i : Nat} {a : Addr} {xs : List D} (hi : ρ[i]? = some (.own a (.lst xs))) (h : WE S te ρ fun d => WE S ti ρ fun k => ∃ n j, k = .int n ∧ ixN xs.length n = some j ∧ E.nx (ρ.set i (.own a (.lst (xs.set j d))))) :
    WS S (tAsg te (gSub (tVar i) ti rSetL)) ρ E := fun σ H Dv R l =>
  h σ H R _ fun v H1 d e1 q1 h2 => by
    have R1 := R.mono e1
    obtain ⟨g1, us, g2, g3⟩ := R1.varO hi
    refine ⟨.ref a, g1, h2 σ H1 R1 _ fun w H2 k e2 q2 ⟨n, j, ek, hj, z⟩ => ?_⟩
    subst ek
    have ew := dq_int q2
    subst ew
    have g2' := e2.at g2
    have R2 := R1.mono e2
    obtain ⟨R3, kk⟩ := R2.lst (vs := us.set j v) (ys := xs.set j d) hi (DqL.set (q1.mono e2) j (g3.mono e2))
    exact ⟨a, us, n, j, rfl, rfl, g2', by rw [g3.length]; exact hj, l.nx _ _ _ R3 ((Keep.of (e1.trans e2)).trans kk) z⟩

/-! ### loops -/
/-- for target in iterable: Inv by what is done and what stands -/
theorem ws_for {wi : TI} {g : TG} {js : List Nat} (h : WI S wi ρ fun ds => ∃ Iv : List D → List Sl → Prop, Iv [] ρ ∧
    (∀ pre x post ρ', ds = pre ++ x :: post → Iv pre ρ' → WG S g js x ρ' fun ρ2 => WS S t ρ2 { E with nx := Iv (pre ++ [x]), ct := Iv (pre ++ [x]), bk := E.nx }) ∧ ∀ ρ', Iv ds ρ' → E.nx ρ') : WS S (tFor wi g t) ρ E := fun σ H Dv R l =>
  h σ H R _ fun J H1 vs es ds e1 q1 dw sz ⟨Iv, h0, hs, hd⟩ => by
    have R1 := R.mono e1
    refine ⟨fun i m σ' H' => m = ds.length - i ∧ i ≤ ds.length ∧ ∃ ρ', S.R H' σ' ρ' ∧ Keep S.G S.B H1 ρ H' ρ' ∧ Iv (ds.take i) ρ', ⟨_, rfl, Nat.zero_le _, ρ, R1, Keep.refl, by simpa using h0⟩, ?_⟩
    rintro i m σ' H' ⟨rfl, hi, ρ', R', k', hI⟩
    have q' := k'.l q1
    obtain ⟨go, stop, yld⟩ := dw _ H' R'.alc q'
    by_cases hlt : i < ds.length
    · refine .inr ⟨go i hlt, fun σ2 H2 => ∃ ρ2, S.R H2 σ2 ρ2 ∧ Keep S.G S.B H1 ρ H2 ρ2 ∧ Iv (ds.take (i + 1)) ρ2, fun σ2 H2 ⟨ρ2, R2, k2, I2⟩ => ⟨ds.length - (i + 1), by omega, rfl, hlt, ρ2, R2, k2, I2⟩, fun x H2 y => ?_⟩
      obtain ⟨e2, d, hd2, qx⟩ := yld i x H2 hlt y
      have es : ds = ds.take i ++ d :: ds.drop (i + 1) := by
        have e3 : ds[i]? = some ds[i] := List.getElem?_eq_getElem hlt
        rw [e3] at hd2
        cases hd2
        simp
      have et : ds.take i ++ [d] = ds.take (i + 1) := by
        have e3 : ds[i]? = some ds[i] := List.getElem?_eq_getElem hlt
        rw [e3] at hd2
        cases hd2
        simp
      have hg := hs (ds.take i) d (ds.drop (i + 1)) ρ' es hI
      rw [et] at hg
      refine hg σ' H2 x (R'.mono e2) qx _ fun σ3 H3 ρ3 R3 e3 hs3 _ hw => ?_
      have k3 : Keep S.G S.B H1 ρ H3 ρ3 := k'.trans (fun v d q => (q.mono (e2.trans e3)).less hs3)
      refine hw σ3 H3 _ R3 ⟨fun σ4 H4 ρ4 R4 k4 q4 => ⟨ρ4, R4, k3.trans k4, q4⟩, l.rt, fun σ4 H4 ρ4 R4 k4 q4 => ?_, fun σ4 H4 ρ4 R4 k4 q4 => ⟨ρ4, R4, k3.trans k4, q4⟩⟩
      exact l.nx σ4 H4 ρ4 R4 ((Keep.of e1).trans (k3.trans k4)) q4
    · have e : i = ds.length := by omega
      subst e
      rw [List.take_length] at hI
      exact .inl ⟨stop, l.nx σ' H' ρ' R' ((Keep.of e1).trans k') (hd ρ' hI)⟩
/-- while test: body -/
theorem ws_while (Iv : Nat → List Sl → Prop) {m0 : Nat} (h0 : Iv m0 ρ) (hs : ∀ m ρ', Iv m ρ' → WT S c ρ' fun b => if b = true then WS S t ρ' { E with nx := fun ρ2 => ∃ m', m' < m ∧ Iv m' ρ2, ct := fun ρ2 => ∃ m', m' < m ∧ Iv m' ρ2, bk := E.nx } else E.nx ρ') :
    WS S (tWhile c t) ρ E := fun σ H Dv R l => by
  refine ⟨fun m σ' H' => ∃ ρ', S.R H' σ' ρ' ∧ Keep S.G S.B H ρ H' ρ' ∧ Iv m ρ', ⟨m0, ρ, R, Keep.refl, h0⟩, ?_⟩
  rintro m σ' H' ⟨ρ', R', k', hI⟩
  refine hs m ρ' hI σ' H' R' _ fun b H2 e2 q => ?_
  cases b with
  | true =>
    refine ⟨fun σ4 H4 => ∃ m', m' < m ∧ ∃ ρ4, S.R H4 σ4 ρ4 ∧ Keep S.G S.B H ρ H4 ρ4 ∧ Iv m' ρ4, fun σ4 H4 ⟨m', lt, ρ4, R4, k4, q4⟩ => ⟨m', lt, ρ4, R4, k4, q4⟩, ?_⟩
    have k2 : Keep S.G S.B H ρ H2 ρ' := k'.trans (.of e2)
    exact (show WS S t ρ' { E with nx := fun ρ2 => ∃ m', m' < m ∧ Iv m' ρ2, ct := fun ρ2 => ∃ m', m' < m ∧ Iv m' ρ2, bk := E.nx } from by simpa using q) σ' H2 _ (R'.mono e2) ⟨fun σ4 H4 ρ4 R4 k4 ⟨m', lt, q4⟩ => ⟨m', lt, ρ4, R4, k2.trans k4, q4⟩, l.rt, fun σ4 H4 ρ4 R4 k4 q4 => l.nx σ4 H4 ρ4 R4 (k2.trans k4) q4, fun σ4 H4 ρ4 R4 k4 ⟨m', lt, q4⟩ => ⟨m', lt, ρ4, R4, k2.trans k4, q4⟩⟩
  | false =>
    exact l.nx σ' H2 ρ' (R'.mono e2) (k'.trans (.of e2)) (by simpa using q)
end
end Sw
end

section
set_option Elab.async false
set_option autoImplicit false
set_option linter.all false
set_option maxRecDepth 100000
set_option maxHeartbeats 4000000
namespace Sw
open PySem PySem.Spec PyProof.Rows L2
/-- the slots of a comprehension's own names forgotten -/
def wipeR (ρ : List Sl) : List Nat → List Sl
  | [] => ρ
  | v :: vs => (wipeR ρ vs).set v .no
section
variable {G : Gx} {B : Addr → Prop} {H0 H : Hp} {σ : L2.St} {ρ : List Sl}
theorem Rho.wipe (R : Rho G B H0 H σ ρ) : ∀ vs : List Nat, Rho G B H0 H (wipe σ vs) (wipeR ρ vs)
  | [] => R
  | v :: vs => (R.wipe vs).forget v none
/-- one object more is hidden -/
theorem Rho.hide (R : Rho G B H0 H σ ρ) {H' : Hp} {p : Addr} (e : Ex G H H') (n : H p = none) (n' : H' p ≠ none) : Rho G (wth B p) H0 H' σ ρ := by
  have R2 := R.mono e
  have lt : ∀ a, H a ≠ none → hid (wth B p) ρ a → hid B ρ a := fun a ha hb => by
    rcases hb with (hb | hb) | hb
    · exact .inl hb
    · subst hb
      exact absurd n ha
    · exact .inr hb
  refine ⟨R2.tb, R2.ex, fun a q => ?_, fun a q z => ?_, R2.len, fun i s h => ?_, R2.own, R2.tr, R2.dis⟩
  · rcases q with q | q
    · exact R2.bs a q
    · subst q
      exact n'
  · rcases z with z | z
    · exact R.nb a q z
    · subst z
      exact R.tr a q n
  · obtain ⟨o, h1, h2⟩ := R.at_ i s h
    exact ⟨o, h1, (h2.lessT lt).mono e⟩
end
section
variable {S : Sc} {ρ : List Sl} {te tk : TE} {tt : TT} {wi : TI} {g : TG} {js vs : List Nat}
/-- within a comprehension the list that is made is hidden -/
abbrev Sc.in (S : Sc) (p : Addr) : Sc := ⟨S.G, wth S.B p, S.H0⟩
theorem hid_wth {B : Addr → Prop} {p : Addr} {ρ ρ' : List Sl} (ho : owns ρ' = owns ρ) (a : Addr) : hid (wth B p) ρ' a ↔ wth (hid B ρ) p a := by
  unfold hid wth
  rw [ho]
  constructor
  · rintro ((h | h) | h)
    · exact .inl (.inl h)
    · exact .inr h
    · exact .inl (.inr h)
  · rintro ((h | h) | h)
    · exact .inl (.inl h)
    · exact .inr h
    · exact .inl (.inr h)
theorem wipe_none {σ : L2.St} {v : Nat} : ∀ vs : List Nat, v ∈ vs → v < σ.length → (wipe σ vs)[v]? = some none
  | [], h, _ => by simp at h
  | u :: vs, h, hl => by
    show ((wipe σ vs).set u none)[v]? = some none
    by_cases e : u = v
    · subst e
      exact List.getElem?_set_self (by rw [wipe_length]; exact hl)
    · rw [List.getElem?_set_ne e]
      rcases List.mem_cons.mp h with q | q
      · exact absurd q.symm e
      · exact wipe_none vs q hl
theorem wipe_same {τ : L2.St} : ∀ us : List Nat, (∀ u ∈ us, u < τ.length → τ[u]? = some none) → wipe τ us = τ
  | [], _ => rfl
  | u :: us, h => by
    show (wipe τ us).set u none = τ
    rw [wipe_same us fun x hx => h x (List.mem_cons_of_mem _ hx)]
    by_cases hl : u < τ.length
    · exact set_same (h u (by simp) hl)
    · exact List.set_eq_of_length_le (by omega)
theorem wipe_wipe {σ : L2.St} (vs : List Nat) : wipe (wipe σ vs) vs = wipe σ vs := wipe_same vs fun u hu hl => wipe_none vs hu (by rw [wipe_length] at hl; exact hl)
/-- [e for target in iterable if test] -/
theorem wn_lc {Q : List D → Prop} (hv : ∀ j ∈ js, j ∈ vs) (ho : owns (wipeR ρ vs) = owns ρ) (h : WI S wi ρ fun ds => ∃ Iv : List D → List D → Prop, Iv [] [] ∧
    (∀ p pre x post acc, ds = pre ++ x :: post → Iv pre acc → WG (S.in p) g js x (wipeR ρ vs) fun ρ2 => owns ρ2 = owns ρ ∧ WT (S.in p) tt ρ2 fun b => if b = true then WE (S.in p) te ρ2 fun y => Iv (pre ++ [x]) (acc ++ [y]) else Iv (pre ++ [x]) acc) ∧ ∀ acc, Iv ds acc → Q acc) :
    WN S (tLc wi g tt te vs) ρ Q := fun σ H R Qv k =>
  h σ H R _ fun J H1 us es ds e1 q1 dw sz ⟨Iv, h0, hs, hd⟩ D hD => by
    have R1 := R.mono e1
    have eD : Ex S.G H1 (upd H1 D (.lst [])) := Ex.new hD
    -- what stands at turn i: the list's items are data, the list itself is hidden
    let Pv : Nat → Hp → Prop := fun i H' => ∃ ws acc, Ex S.G H1 H' ∧ H' D = some (.lst ws) ∧ DqL S.G (wth (hid S.B ρ) D) H' ws acc ∧ acc.length ≤ i ∧ Iv (ds.take i) acc
    refine ⟨fun i m H' => m = ds.length - i ∧ i ≤ ds.length ∧ Pv i H', ⟨_, rfl, Nat.zero_le _, [], [], eD, upd_same, .nil, Nat.le_refl _, by simpa using h0⟩, ?_⟩
    rintro i m H' ⟨rfl, hi, ws, acc, e2, hw, qa, la, hI⟩
    have R2 : Rho S.G (wth S.B D) S.H0 H' (wipe σ vs) (wipeR ρ vs) := (R1.wipe vs).hide e2 hD (by rw [hw]; exact fun z => nomatch z)
    have q2 : DqL S.G (hid (wth S.B D) (wipeR ρ vs)) H' us es := ((q1.fresh hD).mono e2).less fun a z => (hid_wth ho a).mp z
    obtain ⟨go, stop, yld⟩ := dw _ H' R2.alc q2
    by_cases hlt : i < ds.length
    · refine .inr ⟨go i hlt, fun H2 => Pv (i + 1) H2, fun H2 p2 => ⟨ds.length - (i + 1), by omega, rfl, hlt, p2⟩, fun x H2 y => ?_⟩
      obtain ⟨e3, d, hd2, qx⟩ := yld i x H2 hlt y
      have e4 : ds[i]? = some ds[i] := List.getElem?_eq_getElem hlt
      rw [e4] at hd2
      cases hd2
      have es' : ds = ds.take i ++ ds[i] :: ds.drop (i + 1) := by simp
      have et : ds.take i ++ [ds[i]] = ds.take (i + 1) := by simp
      have hg := hs D (ds.take i) ds[i] (ds.drop (i + 1)) acc es' hI
      rw [et] at hg
      refine hg (wipe σ vs) H2 x (R2.mono e3) qx _ fun σ3 H3 ρ3 R3 e5 hs3 hwp ⟨ho3, hw3⟩ => ⟨?_, ?_⟩
      · have := hwp vs hv
        rw [this]
        exact wipe_wipe vs
      have e6 : Ex S.G H' H3 := e3.trans e5
      refine hw3 σ3 H3 R3 _ fun b H4 e7 q4 => ?_
      have e8 : Ex S.G H1 H4 := e2.trans (e6.trans e7)
      cases b with
      | true =>
        have q4' : WE (S.in D) te ρ3 fun y => Iv (ds.take (i + 1)) (acc ++ [y]) := by simpa using q4
        refine q4' σ3 H4 (R3.mono e7) _ fun y H5 dy e9 qy hy => ?_
        have eA : Ex S.G H' H5 := e6.trans (e7.trans e9)
        have hw5 := eA.at hw
        have hide : ∀ a, wth (hid S.B ρ) D a → hid (wth S.B D) ρ3 a := fun a z => (hid_wth ho3 a).mpr z
        have qa5 := qa.mono eA
        have x5 : Ext (wth (hid S.B ρ) D) H5 (upd H5 D (.lst (ws ++ [y]))) := ext_upd (.inr rfl) hw5 trivial
        refine ⟨ws, hw5, ?_, ws ++ [y], acc ++ [dy], (e2.trans eA).wr hD hw5 trivial, upd_same, (qa5.append (.cons (qy.less hide) .nil)).ext x5, by rw [List.length_append]; simp; omega, hy⟩
        · rw [qa.length]
          omega
      | false =>
        exact ⟨ws, acc, e8, (e6.trans e7).at hw, qa.mono (e6.trans e7), by omega, by simpa using q4⟩
    · have e : i = ds.length := by omega
      subst e
      rw [List.take_length] at hI
      exact .inl ⟨stop, k D H' ws acc (nf e1 hD) (e1.trans e2) hw qa (hd acc hI)⟩
end
end Sw
end

section
set_option Elab.async false
set_option autoImplicit false
set_option linter.all false
set_option maxRecDepth 100000
set_option maxHeartbeats 4000000
namespace Sw
open PySem PySem.Spec PyProof.Rows L2
/-! ### readings -/
def rStrAdd : R2 := fun x y H Q => ∃ i j, x = .str i ∧ y = .str j ∧ i.length + j.length ≤ sizeLine ∧ Q (.str (i ++ j)) H
def rAddU (K : PySem.W.Frag) : R2 := fun x y H Q => rI0 (fun i j => .int (i + j)) x y H Q ∨ (rStrAdd x y H Q ∨ (rCat x y H Q ∨ rCatA K x y H Q))
def rSubU : R2 := rI0 fun i j => .int (i - j)
def rMulU : R2 := fun x y H Q => rI CMul (fun i j => .int (i * j)) x y H Q ∨ rRep x y H Q
def rDivU : R2 := rI CDiv fun i j => .int (i / j)
def rModU : R2 := rI (fun _ j => 0 < j) fun i j => .int (i % j)
def rPowU : R2 := rI CPow fun i j => .int (i ^ j.toNat)
def rLtU (K : PySem.W.Frag) : R2 := fun x y H Q => rI0 (fun i j => .bl (decide (i < j))) x y H Q ∨ ((fun x y H Q => ∃ i j, x = .str i ∧ y = .str j ∧ Q (.bl (decide (i.cps.toList < j.cps.toList))) H) x y H Q ∨ rLtT K x y H Q)
def rLeU : R2 := rI0 fun i j => .bl (decide (i ≤ j))
def rGtU : R2 := rI0 fun i j => .bl (decide (j < i))
def rGeU : R2 := rI0 fun i j => .bl (decide (j ≤ i))
def rInU (K : PySem.W.Frag) : R2 := fun x y H Q => rIn K false x y H Q ∨ (rInD K x y H Q ∨ rInS x y H Q)
def rNotInU (K : PySem.W.Frag) : R2 := fun x y H Q => rIn K true x y H Q ∨ rNotInD K x y H Q
section
variable {X : Cx}
theorem op_addU : OpR X (binaryOp .Add) (rAddU X.K) := .or op_add (.or op_add_str (.or op_cat op_catA))
theorem op_subU : OpR X (binaryOp .Sub) rSubU := op_sub
theorem op_mulU : OpR X (binaryOp .Mult) rMulU := .or op_mul op_rep
theorem op_divU : OpR X (binaryOp .FloorDiv) rDivU := op_fdiv
theorem op_modU : OpR X (binaryOp .Mod) rModU := op_mod
theorem op_powU : OpR X (binaryOp .Pow) rPowU := op_pow
theorem op_ltU (hu : X.A.units < cLine) : OpR X (compareOp .Lt) (rLtU X.K) := .or op_lt (.or op_lt_str (op_ltT hu))
theorem op_leU : OpR X (compareOp .LtE) rLeU := op_le
theorem op_gtU : OpR X (compareOp .Gt) rGtU := op_gt
theorem op_geU : OpR X (compareOp .GtE) rGeU := op_ge
theorem op_inU (hu : X.A.units + 65 < cLine) : OpR X (compareOp .In) (rInU X.K) := .or op_in_seq (.or (op_inD hu) op_in_sign)
theorem op_notInU (hu : X.A.units + 65 < cLine) : OpR X (compareOp .NotIn) (rNotInU X.K) := .or op_notIn_seq (op_notInD hu)
end
/-! ### by data -/
section
variable {G : Gx}
theorem rd_addI {i j : Int} {Q : D → Prop} (q : Q (.int (i + j))) : RD G (rAddU G.K) (.int i) (.int j) Q := fun Bh H vx vy al hx hy Qv k => by
  rw [dq_int hx, dq_int hy]
  exact .inl ⟨i, j, rfl, rfl, k _ H _ (Ex.refl H) (.int _) q⟩
theorem rd_addS {i j : Str} {Q : D → Prop} (hz : i.length + j.length ≤ sizeLine) (q : Q (.str (i ++ j))) : RD G (rAddU G.K) (.str i) (.str j) Q := fun Bh H vx vy al hx hy Qv k => by
  rw [dq_str hx, dq_str hy]
  exact .inr (.inl ⟨i, j, rfl, rfl, hz, k _ H _ (Ex.refl H) (.str _) q⟩)
theorem rd_addT {xs ys : List D} {Q : D → Prop} (hz : xs.length + ys.length ≤ sizeLine) (q : Q (.tup (xs ++ ys))) : RD G (rAddU G.K) (.tup xs) (.tup ys) Q := fun Bh H vx vy al hx hy Qv k => by
  obtain ⟨a, us, rfl, h1, r1⟩ := dq_tup hx
  obtain ⟨b, ws, rfl, h2, r2⟩ := dq_tup hy
  refine .inr (.inr (.inr ⟨a, b, us, ws, rfl, rfl, h1, h2, by rw [r1.length, r2.length]; exact hz, fun e => ?_, fun e1 e => ?_, fun e1 e2 p hp => ?_⟩))
  · subst e
    have e : xs = [] := by cases r1; rfl
    subst e
    exact k _ H _ (Ex.refl H) hy q
  · subst e
    have e : ys = [] := by cases r2; rfl
    subst e
    rw [List.append_nil] at q
    exact k _ H _ (Ex.refl H) hx q
  · exact k _ _ _ (Ex.new hp) (.tup (SqT.of upd_same) ((r1.append r2).mono (Ex.new hp))) q
theorem rdn_addL {xs ys : List D} {Q : List D → Prop} (hz : xs.length + ys.length ≤ sizeLine) (q : Q (xs ++ ys)) : RDN G (rAddU G.K) (.lst xs) (.lst ys) Q := fun Bh H vx vy al hx hy Qv k => by
  obtain ⟨a, us, rfl, h1, n1, r1⟩ := dq_lst hx
  obtain ⟨b, ws, rfl, h2, n2, r2⟩ := dq_lst hy
  exact .inr (.inr (.inl ⟨a, b, us, ws, rfl, rfl, h1, h2, by rw [r1.length, r2.length]; exact hz, fun p hp => k p _ _ _ hp (Ex.new hp) upd_same (((r1.append r2).fresh hp).mono (Ex.new hp)) q⟩))
theorem rd_sub {i j : Int} {Q : D → Prop} (q : Q (.int (i - j))) : RD G rSubU (.int i) (.int j) Q := fun Bh H vx vy al hx hy Qv k => by
  rw [dq_int hx, dq_int hy]
  exact ⟨i, j, rfl, rfl, k _ H _ (Ex.refl H) (.int _) q⟩
theorem rd_mul {i j : Int} {Q : D → Prop} (c : CMul i j) (q : Q (.int (i * j))) : RD G rMulU (.int i) (.int j) Q := fun Bh H vx vy al hx hy Qv k => by
  rw [dq_int hx, dq_int hy]
  exact .inl ⟨i, j, rfl, rfl, c, k _ H _ (Ex.refl H) (.int _) q⟩
theorem rdn_rep {xs : List D} {n : Int} {Q : List D → Prop} (h0 : 0 ≤ n) (hn : n ≤ 1000) (hx : xs.length ≤ 1000) (q : Q (List.replicate n.toNat xs).flatten) : RDN G rMulU (.lst xs) (.int n) Q := fun Bh H vx vy al hx' hy Qv k => by
  obtain ⟨a, us, rfl, h1, n1, r1⟩ := dq_lst hx'
  rw [dq_int hy]
  have hl : us.length * n.toNat ≤ sizeLine := by
    rw [r1.length]
    exact Nat.le_trans (Nat.mul_le_mul hx (show n.toNat ≤ 1000 by omega)) (by decide)
  refine .inr ⟨a, n, us, rfl, rfl, h1, by omega, by omega, hl, fun p hp => k p _ _ _ hp (Ex.new hp) upd_same (((rep r1 n.toNat).fresh hp).mono (Ex.new hp)) q⟩
where
  rep {Bh : Addr → Prop} {H : Hp} {us : List V} {xs : List D} (r : DqL G Bh H us xs) : ∀ m : Nat, DqL G Bh H (List.replicate m us).flatten (List.replicate m xs).flatten
    | 0 => .nil
    | m + 1 => by
      rw [List.replicate_succ, List.replicate_succ, List.flatten_cons, List.flatten_cons]
      exact r.append (rep r m)
theorem rd_div {i j : Int} {Q : D → Prop} (c : CDiv i j) (q : Q (.int (i / j))) : RD G rDivU (.int i) (.int j) Q := fun Bh H vx vy al hx hy Qv k => by
  rw [dq_int hx, dq_int hy]
  exact ⟨i, j, rfl, rfl, c, k _ H _ (Ex.refl H) (.int _) q⟩
theorem rd_mod {i j : Int} {Q : D → Prop} (c : 0 < j) (q : Q (.int (i % j))) : RD G rModU (.int i) (.int j) Q := fun Bh H vx vy al hx hy Qv k => by
  rw [dq_int hx, dq_int hy]
  exact ⟨i, j, rfl, rfl, c, k _ H _ (Ex.refl H) (.int _) q⟩
theorem rd_pow {i j : Int} {Q : D → Prop} (c : CPow i j) (q : Q (.int (i ^ j.toNat))) : RD G rPowU (.int i) (.int j) Q := fun Bh H vx vy al hx hy Qv k => by
  rw [dq_int hx, dq_int hy]
  exact ⟨i, j, rfl, rfl, c, k _ H _ (Ex.refl H) (.int _) q⟩
theorem rd_lt {i j : Int} {Q : D → Prop} (q : Q (.bl (decide (i < j)))) : RD G (rLtU G.K) (.int i) (.int j) Q := fun Bh H vx vy al hx hy Qv k => by
  rw [dq_int hx, dq_int hy]
  exact .inl ⟨i, j, rfl, rfl, k _ H _ (Ex.refl H) (.bl _) q⟩
theorem rd_ltS {i j : Str} {Q : D → Prop} (q : Q (.bl (decide (i.cps.toList < j.cps.toList)))) : RD G (rLtU G.K) (.str i) (.str j) Q := fun Bh H vx vy al hx hy Qv k => by
  rw [dq_str hx, dq_str hy]
  exact .inr (.inl ⟨i, j, rfl, rfl, k _ H _ (Ex.refl H) (.bl _) q⟩)
theorem rd_ltT {i j : List Int} {Q : D → Prop} (q : Q (.bl (HT.lexLt i j))) : RD G (rLtU G.K) (.tup (i.map D.int)) (.tup (j.map D.int)) Q := fun Bh H vx vy al hx hy Qv k => by
  obtain ⟨a, us, rfl, h1, r1⟩ := dq_tup hx
  obtain ⟨b, ws, rfl, h2, r2⟩ := dq_tup hy
  rw [dql_ints r1] at h1
  rw [dql_ints r2] at h2
  exact .inr (.inr ⟨a, b, i, j, rfl, rfl, h1, h2, k _ H _ (Ex.refl H) (.bl _) q⟩)
theorem rd_le {i j : Int} {Q : D → Prop} (q : Q (.bl (decide (i ≤ j)))) : RD G rLeU (.int i) (.int j) Q := fun Bh H vx vy al hx hy Qv k => by
  rw [dq_int hx, dq_int hy]
  exact ⟨i, j, rfl, rfl, k _ H _ (Ex.refl H) (.bl _) q⟩
theorem rd_gt {i j : Int} {Q : D → Prop} (q : Q (.bl (decide (j < i)))) : RD G rGtU (.int i) (.int j) Q := fun Bh H vx vy al hx hy Qv k => by
  rw [dq_int hx, dq_int hy]
  exact ⟨i, j, rfl, rfl, k _ H _ (Ex.refl H) (.bl _) q⟩
theorem rd_ge {i j : Int} {Q : D → Prop} (q : Q (.bl (decide (j ≤ i)))) : RD G rGeU (.int i) (.int j) Q := fun Bh H vx vy al hx hy Qv k => by
  rw [dq_int hx, dq_int hy]
  exact ⟨i, j, rfl, rfl, k _ H _ (Ex.refl H) (.bl _) q⟩
/-! equality of data -/
theorem rd_eqP {x y : D} {p q : PyData} {Q : D → Prop} (hx : py x = some p) (hy : py y = some q) (sp : SeqAt.shaped p = true) (sq : SeqAt.shaped q = true) (h : Q (.bl (PyData.eqv p q))) : RD G (rEqD G.K) x y Q := fun Bh H vx vy al h1 h2 Qv k =>
  ⟨p, q, h1.dp hx, h2.dp hy, sp, sq, k _ H _ (Ex.refl H) (.bl _) h⟩
theorem rd_neP {x y : D} {p q : PyData} {Q : D → Prop} (hx : py x = some p) (hy : py y = some q) (sp : SeqAt.shaped p = true) (sq : SeqAt.shaped q = true) (h : Q (.bl (!PyData.eqv p q))) : RD G (rNeD G.K) x y Q := fun Bh H vx vy al h1 h2 Qv k =>
  ⟨p, q, h1.dp hx, h2.dp hy, sp, sq, k _ H _ (Ex.refl H) (.bl _) h⟩
theorem rd_isN {x : D} {b : Bool} {Q : D → Prop} (hb : ∀ Bh H v, Dq G Bh H v x → decide (v = .non) = b) (h : Q (.bl b)) : RD G rIsN x .non Q := fun Bh H vx vy al h1 h2 Qv k => by
  refine ⟨dq_non h2, ?_⟩
  rw [hb _ _ _ h1]
  exact k _ H _ (Ex.refl H) (.bl _) h
theorem rd_notN {x : D} {b : Bool} {Q : D → Prop} (hb : ∀ Bh H v, Dq G Bh H v x → decide (v = .non) = b) (h : Q (.bl (!b))) : RD G rNotN x .non Q := fun Bh H vx vy al h1 h2 Qv k => by
  refine ⟨dq_non h2, ?_⟩
  rw [hb _ _ _ h1]
  exact k _ H _ (Ex.refl H) (.bl _) h
theorem isn_non (Bh : Addr → Prop) (H : Hp) (v : V) (h : Dq G Bh H v .non) : decide (v = .non) = true := by cases h; rfl
theorem isn_str {x : Str} (Bh : Addr → Prop) (H : Hp) (v : V) (h : Dq G Bh H v (.str x)) : decide (v = .non) = false := by cases h; rfl
theorem isn_int {x : Int} (Bh : Addr → Prop) (H : Hp) (v : V) (h : Dq G Bh H v (.int x)) : decide (v = .non) = false := by cases h; rfl
theorem isn_tup {x : List D} (Bh : Addr → Prop) (H : Hp) (v : V) (h : Dq G Bh H v (.tup x)) : decide (v = .non) = false := by cases h; rfl
theorem isn_lst {x : List D} (Bh : Addr → Prop) (H : Hp) (v : V) (h : Dq G Bh H v (.lst x)) : decide (v = .non) = false := by cases h; rfl
theorem isn_dct {x : List (Key × D)} (Bh : Addr → Prop) (H : Hp) (v : V) (h : Dq G Bh H v (.dct x)) : decide (v = .non) = false := by cases h; rfl
theorem isn_ins {C : Addr} {x : List (Str × D)} (Bh : Addr → Prop) (H : Hp) (v : V) (h : Dq G Bh H v (.ins C x)) : decide (v = .non) = false := by cases h; rfl
/-! in -/
theorem rd_inS {c : Nat} {z : Str} {Q : D → Prop} (h : Q (.bl (decide (c ∈ z.cps.toList)))) : RD G (rInU G.K) (.str ⟨#[c]⟩) (.str z) Q := fun Bh H vx vy al h1 h2 Qv k => by
  rw [dq_str h1, dq_str h2]
  exact .inr (.inr ⟨c, z, rfl, rfl, k _ H _ (Ex.refl H) (.bl _) h⟩)
theorem inV_strs (x : Str) : ∀ xs : List Str, inV (.str x) (xs.map V.str) = decide (x ∈ xs)
  | [] => rfl
  | y :: ys => by
    have h := inV_strs x ys
    unfold inV at h ⊢
    rw [List.map_cons, List.any_cons, h]
    by_cases e : y = x
    · subst e
      simp [eqV]
    · have e2 : eqV (.str y) (.str x) = false := by
        simp [eqV, e]
      have e3 : ¬ x = y := fun q => e q.symm
      rw [e2]
      simp [e3]
theorem flat_strs : ∀ xs : List Str, (xs.map V.str).all flatV = true
  | [] => rfl
  | _ :: xs => by rw [List.map_cons, List.all_cons, flat_strs xs] <;> rfl
theorem rd_inT {x : Str} {xs : List Str} {Q : D → Prop} (h : Q (.bl (decide (x ∈ xs)))) : RD G (rInU G.K) (.str x) (.tup (xs.map D.str)) Q := fun Bh H vx vy al h1 h2 Qv k => by
  rw [dq_str h1]
  obtain ⟨a, us, rfl, h3, r⟩ := dq_tup h2
  rw [dql_strs r] at h3
  refine .inl ⟨a, _, rfl, .inr h3, rfl, flat_strs xs, ?_⟩
  show Qv (.bl (inV (.str x) (xs.map V.str))) H
  rw [inV_strs]
  exact k _ H _ (Ex.refl H) (.bl _) h
theorem rd_notInT {x : Str} {xs : List Str} {Q : D → Prop} (h : Q (.bl (!decide (x ∈ xs)))) : RD G (rNotInU G.K) (.str x) (.tup (xs.map D.str)) Q := fun Bh H vx vy al h1 h2 Qv k => by
  rw [dq_str h1]
  obtain ⟨a, us, rfl, h3, r⟩ := dq_tup h2
  rw [dql_strs r] at h3
  refine .inl ⟨a, _, rfl, .inr h3, rfl, flat_strs xs, ?_⟩
  show Qv (.bl (!inV (.str x) (xs.map V.str))) H
  rw [inV_strs]
  exact k _ H _ (Ex.refl H) (.bl _) h
theorem rd_inL {x : D} {xs : List D} {p : PyData} {ps : List PyData} {Q : D → Prop} (hx : py x = some p) (hy : pys xs = some ps) (sp : SeqAt.shaped p = true) (sq : SeqAt.shaped (.list ps) = true) (h : Q (.bl (ps.any fun z => PyData.eqv z p))) :
    RD G (rInU G.K) x (.lst xs) Q := fun Bh H vx vy al h1 h2 Qv k => by
  refine .inr (.inl ⟨p, ps, h1.dp hx, h2.dp (by simp [py, hy]), sp, sq, k _ H _ (Ex.refl H) (.bl _) h⟩)
theorem rd_notInL {x : D} {xs : List D} {p : PyData} {ps : List PyData} {Q : D → Prop} (hx : py x = some p) (hy : pys xs = some ps) (sp : SeqAt.shaped p = true) (sq : SeqAt.shaped (.list ps) = true) (h : Q (.bl (!ps.any fun z => PyData.eqv z p))) :
    RD G (rNotInU G.K) x (.lst xs) Q := fun Bh H vx vy al h1 h2 Qv k => by
  refine .inr ⟨p, ps, h1.dp hx, h2.dp (by simp [py, hy]), sp, sq, k _ H _ (Ex.refl H) (.bl _) h⟩
/-! items, slices -/
theorem rd_ixT {xs : List D} {i : Int} {d : D} {Q : D → Prop} (h : atI xs i = some d) (q : Q d) : RD G (rIx G.K) (.tup xs) (.int i) Q := fun Bh H vx vy al h1 h2 Qv k => by
  rw [dq_int h2]
  obtain ⟨a, us, rfl, h3, r⟩ := dq_tup h1
  obtain ⟨v, e1, e2⟩ := r.atI h
  exact .inr (.inl ⟨a, us, i, v, rfl, rfl, h3, e1, k _ H _ (Ex.refl H) e2 q⟩)
theorem rd_ixL {xs : List D} {i : Int} {d : D} {Q : D → Prop} (h : atI xs i = some d) (q : Q d) : RD G (rIx G.K) (.lst xs) (.int i) Q := fun Bh H vx vy al h1 h2 Qv k => by
  rw [dq_int h2]
  obtain ⟨a, us, rfl, h3, n, r⟩ := dq_lst h1
  obtain ⟨v, e1, e2⟩ := r.atI h
  exact .inl ⟨a, us, i, v, rfl, rfl, SqL.of h3, e1, k _ H _ (Ex.refl H) e2 q⟩
theorem rd_ixS {z : Str} {i : Int} {c : Nat} {Q : D → Prop} (hz : z.length ≤ sizeLine) (h : atI z.cps.toList i = some c) (q : Q (.str ⟨#[c]⟩)) : RD G (rIx G.K) (.str z) (.int i) Q := fun Bh H vx vy al h1 h2 Qv k => by
  rw [dq_int h2, dq_str h1]
  exact .inr (.inr ⟨z, i, c, rfl, rfl, hz, h, k _ H _ (Ex.refl H) (.str _) q⟩)
end
end Sw
end

section
set_option Elab.async false
set_option autoImplicit false
set_option linter.all false
set_option maxRecDepth 100000
set_option maxHeartbeats 4000000
namespace Sw
open PySem PySem.Spec PyProof.Rows L2
section
variable {G : Gx} {S : Sc} {ρ : List Sl} {te tb : TE} {tl th : TO} {ta : TA}
def WO (S : Sc) (to : TO) (ρ : List Sl) (Q : Option Int → Prop) : Prop := ∀ σ H, S.R H σ ρ → ∀ Qv : Option Int → Hp → Prop, (∀ o H', Ex S.G H H' → Q o → Qv o H') → to σ H Qv
theorem wo_none {Q : Option Int → Prop} (q : Q none) : WO S tNoPart ρ Q := fun σ H R Qv k => k none H (Ex.refl H) q
theorem wo_some {Q : Option Int → Prop} (h : WE S te ρ fun d => ∃ i, d = .int i ∧ Q (some i)) : WO S (tPart te) ρ Q := fun σ H R Qv k => h σ H R _ fun v H' d e q ⟨i, ed, z⟩ => by
  subst ed
  exact ⟨i, dq_int q, k _ H' e z⟩
abbrev RSl : Type := V → Option Int → Option Int → Hp → VK → Prop
def RS (G : Gx) (r : RSl) (x : D) (lo hi : Option Int) (Q : D → Prop) : Prop := ∀ Bh H vx, Alc Bh H → Dq G Bh H vx x → ∀ Qv : VK, (∀ v H' d, Ex G H H' → Dq G Bh H' v d → Q d → Qv v H') → r vx lo hi H Qv
def RSN (G : Gx) (r : RSl) (x : D) (lo hi : Option Int) (Q : List D → Prop) : Prop := ∀ Bh H vx, Alc Bh H → Dq G Bh H vx x → ∀ Qv : VK, (∀ p H' ws ds, H p = none → Ex G H H' → H' p = some (.lst ws) → DqL G (wth Bh p) H' ws ds → Q ds → Qv (.ref p) H') → r vx lo hi H Qv
theorem we_sl {r : RSl} {Q : D → Prop} (h : WE S te ρ fun x => WO S tl ρ fun lo => WO S th ρ fun hi => RS S.G r x lo hi Q) : WE S (tSl r te tl th) ρ Q := fun σ H R Qv k =>
  h σ H R _ fun v H1 x e1 q1 h2 => h2 σ H1 (R.mono e1) _ fun lo H2 e2 h3 => h3 σ H2 (R.mono (e1.trans e2)) _ fun hi H3 e3 h4 =>
    h4 _ H3 v (R.alc.mono (e1.trans (e2.trans e3))) (q1.mono (e2.trans e3)) Qv fun z H4 d e4 q hq => k z H4 d (e1.trans (e2.trans (e3.trans e4))) q hq
theorem wn_sl {r : RSl} {Q : List D → Prop} (h : WE S te ρ fun x => WO S tl ρ fun lo => WO S th ρ fun hi => RSN S.G r x lo hi Q) : WN S (tSl r te tl th) ρ Q := fun σ H R Qv k =>
  h σ H R _ fun v H1 x e1 q1 h2 => h2 σ H1 (R.mono e1) _ fun lo H2 e2 h3 => h3 σ H2 (R.mono (e1.trans e2)) _ fun hi H3 e3 h4 =>
    h4 _ H3 v (R.alc.mono (e1.trans (e2.trans e3))) (q1.mono (e2.trans e3)) Qv fun p H4 ws ds n e4 hp q hq => k p H4 ws ds (nf (e1.trans (e2.trans e3)) n) (e1.trans (e2.trans (e3.trans e4))) hp q hq
def rSlU (K : PySem.W.Frag) : RSl := fun x lo hi H Q => rSlL K x lo hi H Q ∨ (rSlA K x lo hi H Q ∨ rSlS x lo hi H Q)
theorem sl_U {X : Cx} : SlR X (rSlU X.K) := .or sl_list (.or sl_tupA sl_str)
theorem sIx_whole {n : Nat} {lo hi : Option Int} {α : Type} {xs : List α} (hn : xs.length = n) (h : HT.sIx n 0 lo = 0 ∧ HT.sIx n n hi = n) : cutD xs lo hi = xs := by
  unfold cutD
  rw [hn, h.1, h.2]
  simp [← hn]
theorem rs_tup {xs : List D} {lo hi : Option Int} {Q : D → Prop} (q : Q (.tup (cutD xs lo hi))) : RS G (rSlU G.K) (.tup xs) lo hi Q := fun Bh H vx al h Qv k => by
  obtain ⟨a, us, rfl, h1, r⟩ := dq_tup h
  refine .inr (.inl ⟨a, us, rfl, h1, fun e => ?_, fun e p hp => ?_⟩)
  · rw [sIx_whole r.length.symm e] at q
    exact k _ H _ (Ex.refl H) h q
  · exact k _ _ _ (Ex.new hp) (.tup (SqT.of upd_same) ((r.cut lo hi).mono (Ex.new hp))) q
theorem rs_str {z : Str} {lo hi : Option Int} {Q : D → Prop} (hz : z.length ≤ sizeLine) (q : Q (.str (cutS z lo hi))) : RS G (rSlU G.K) (.str z) lo hi Q := fun Bh H vx al h Qv k => by
  rw [dq_str h]
  exact .inr (.inr ⟨z, rfl, hz, k _ H _ (Ex.refl H) (.str _) q⟩)
theorem rsn_lst {xs : List D} {lo hi : Option Int} {Q : List D → Prop} (q : Q (cutD xs lo hi)) : RSN G (rSlU G.K) (.lst xs) lo hi Q := fun Bh H vx al h Qv k => by
  obtain ⟨a, us, rfl, h1, n, r⟩ := dq_lst h
  exact .inl ⟨a, us, rfl, SqL.of h1, fun p hp => k p _ _ _ hp (Ex.new hp) upd_same (((r.cut lo hi).fresh hp).mono (Ex.new hp)) q⟩
/-- xs[::-1] -/
theorem wn_rev {Q : List D → Prop} (h : WE S te ρ fun x => ∃ xs, x = .lst xs ∧ Q xs.reverse) : WN S (tRevL S.G.K te) ρ Q := fun σ H R Qv k =>
  h σ H R _ fun v H1 x e1 q1 ⟨xs, ex, hq⟩ => by
    subst ex
    obtain ⟨a, us, rfl, h1, n, r⟩ := dq_lst q1
    exact ⟨a, us, rfl, SqL.of h1, fun p hp => k p _ _ _ (nf e1 hp) (e1.trans (Ex.new hp)) upd_same ((r.reverse.fresh hp).mono (Ex.new hp)) hq⟩

/-! ### built-ins -/
def rLenU (K : PySem.W.Frag) : List V → Hp → VK → Prop := fun xs H Q => ∃ x n, xs = [x] ∧ LenV K x H n ∧ Q (.int n) H
theorem rc_lenT {xs : List D} {Q : D → Prop} (q : Q (.int (xs.length : Nat))) : RC G (rLenU G.K) [.tup xs] Q := fun Bh H vs al h Qv k => by
  cases h with
  | cons h hh =>
    cases hh
    obtain ⟨a, us, rfl, h1, r⟩ := dq_tup h
    exact ⟨_, xs.length, rfl, .inr ⟨us, h1, r.length.symm⟩, k _ H _ (Ex.refl H) (.int _) q⟩
theorem rc_lenL {xs : List D} {Q : D → Prop} (q : Q (.int (xs.length : Nat))) : RC G (rLenU G.K) [.lst xs] Q := fun Bh H vs al h Qv k => by
  cases h with
  | cons h hh =>
    cases hh
    obtain ⟨a, us, rfl, h1, n, r⟩ := dq_lst h
    exact ⟨_, xs.length, rfl, .inl ⟨us, SqL.of h1, r.length.symm⟩, k _ H _ (Ex.refl H) (.int _) q⟩
theorem rc_lenS {z : Str} {Q : D → Prop} (hz : z.length ≤ sizeLine) (q : Q (.int (z.length : Nat))) : RC G (rLenU G.K) [.str z] Q := fun Bh H vs al h Qv k => by
  cases h with
  | cons h hh =>
    cases hh
    rw [dq_str h]
    exact ⟨_, z.length, rfl, ⟨hz, rfl⟩, k _ H _ (Ex.refl H) (.int _) q⟩
theorem rc_all {bs : List Bool} {Q : D → Prop} (q : Q (.bl (bs.all id))) : RC G (rAll G.K) [.lst (bs.map D.bl)] Q := fun Bh H vs al h Qv k => by
  cases h with
  | cons h hh =>
    cases hh
    obtain ⟨a, us, rfl, h1, n, r⟩ := dq_lst h
    rw [dql_bls r] at h1
    exact ⟨a, bs, rfl, SqL.of h1, k _ H _ (Ex.refl H) (.bl _) q⟩
theorem rc_any {bs : List Bool} {Q : D → Prop} (q : Q (.bl (bs.any id))) : RC G (rAny G.K) [.lst (bs.map D.bl)] Q := fun Bh H vs al h Qv k => by
  cases h with
  | cons h hh =>
    cases hh
    obtain ⟨a, us, rfl, h1, n, r⟩ := dq_lst h
    rw [dql_bls r] at h1
    exact ⟨a, bs, rfl, SqL.of h1, k _ H _ (Ex.refl H) (.bl _) q⟩
def rIntU : List V → Hp → VK → Prop := fun xs H Q => (∃ i, xs = [.int i] ∧ Q (.int i) H) ∨ ∃ k, xs = [.bl k] ∧ Q (.int (if k then 1 else 0)) H
theorem rc_intI {i : Int} {Q : D → Prop} (q : Q (.int i)) : RC G rIntU [.int i] Q := fun Bh H vs al h Qv k => by
  cases h with
  | cons h hh =>
    cases hh
    rw [dq_int h]
    exact .inl ⟨i, rfl, k _ H _ (Ex.refl H) (.int _) q⟩
theorem rc_intB {b : Bool} {Q : D → Prop} (q : Q (.int (if b then 1 else 0))) : RC G rIntU [.bl b] Q := fun Bh H vs al h Qv k => by
  cases h with
  | cons h hh =>
    cases hh
    rw [dq_bl h]
    exact .inr ⟨b, rfl, k _ H _ (Ex.refl H) (.int _) q⟩
def rTupU (K : PySem.W.Frag) : List V → Hp → VK → Prop := fun xs H Q => ∃ p ys, xs = [.ref p] ∧ ((SqL K H p ys ∧ ∀ l, H l = none → Q (.ref l) (upd H l (.tup ys))) ∨ (SqT K H p ys ∧ Q (.ref p) H))
theorem rc_tupL {xs : List D} {Q : D → Prop} (q : Q (.tup xs)) : RC G (rTupU G.K) [.lst xs] Q := fun Bh H vs al h Qv k => by
  cases h with
  | cons h hh =>
    cases hh
    obtain ⟨a, us, rfl, h1, n, r⟩ := dq_lst h
    exact ⟨a, us, rfl, .inl ⟨SqL.of h1, fun p hp => k _ _ _ (Ex.new hp) (.tup (SqT.of upd_same) (r.mono (Ex.new hp))) q⟩⟩
theorem rc_tupT {xs : List D} {Q : D → Prop} (q : Q (.tup xs)) : RC G (rTupU G.K) [.tup xs] Q := fun Bh H vs al h Qv k => by
  cases h with
  | cons h hh =>
    cases hh
    obtain ⟨a, us, rfl, h1, r⟩ := dq_tup h
    exact ⟨a, us, rfl, .inr ⟨h1, k _ H _ (Ex.refl H) (.tup h1 r) q⟩⟩
def rLstU (K : PySem.W.Frag) : List V → Hp → VK → Prop := fun xs H Q => ∃ p ys, xs = [.ref p] ∧ (SqL K H p ys ∨ SqT K H p ys) ∧ ∀ l, H l = none → Q (.ref l) (upd H l (.lst ys))
theorem rcn_lst {x : D} {xs : List D} {Q : List D → Prop} (hx : itemsD x = some xs) (q : Q xs) : RCN G (rLstU G.K) [x] Q := fun Bh H vs al h Qv k => by
  cases h with
  | cons h hh =>
    cases hh
    cases x with
    | lst ys =>
      cases hx
      obtain ⟨a, us, rfl, h1, n, r⟩ := dq_lst h
      exact ⟨a, us, rfl, .inl (SqL.of h1), fun p hp => k p _ _ _ hp (Ex.new hp) upd_same ((r.fresh hp).mono (Ex.new hp)) q⟩
    | tup ys =>
      cases hx
      obtain ⟨a, us, rfl, h1, r⟩ := dq_tup h
      exact ⟨a, us, rfl, .inr h1, fun p hp => k p _ _ _ hp (Ex.new hp) upd_same ((r.fresh hp).mono (Ex.new hp)) q⟩
    | _ => cases hx
def rMinU : List V → Hp → VK → Prop := fun xs H Q => ∃ i j, xs = [.int i, .int j] ∧ Q (.int (if j < i then j else i)) H
def rMaxU : List V → Hp → VK → Prop := fun xs H Q => ∃ i j, xs = [.int i, .int j] ∧ Q (.int (if j > i then j else i)) H
theorem rc_min {i j : Int} {Q : D → Prop} (q : Q (.int (if j < i then j else i))) : RC G rMinU [.int i, .int j] Q := fun Bh H vs al h Qv k => by
  rw [dql_ints (ns := [i, j]) h]
  exact ⟨i, j, rfl, k _ H _ (Ex.refl H) (.int _) q⟩
theorem rc_max {i j : Int} {Q : D → Prop} (q : Q (.int (if j > i then j else i))) : RC G rMaxU [.int i, .int j] Q := fun Bh H vs al h Qv k => by
  rw [dql_ints (ns := [i, j]) h]
  exact ⟨i, j, rfl, k _ H _ (Ex.refl H) (.int _) q⟩
/-! isinstance, of plain data and plain classes -/
def isiD : D → String → Option Bool
  | .non, t => some (t == "NoneType")
  | .bl _, t => some (t == "bool" || t == "int")
  | .int _, t => some (t == "int")
  | .str _, t => some (t == "str")
  | .tup _, t => some (t == "tuple")
  | .lst _, t => some (t == "list")
  | .dct _, t => some (t == "dict")
  | _, _ => none
def tysD : List String := ["str", "int", "bool", "tuple", "list", "dict"]
theorem kit6 {K : PySem.W.Frag} (u : String) (b : String → Bool) (h : tysD.all (fun t => decide (kitB u t = some (b t))) = true) {t : String} (ht : t ∈ tysD) : PySem.W.kitOne K (.type u) (.type t) = some (b t) :=
  kit_ty (of_decide_eq_true (List.all_eq_true.mp h t ht))
theorem kit_non {K : PySem.W.Frag} {t : String} (ht : t ∈ tysD) : PySem.W.kitOne K (.type "NoneType") (.type t) = some (t == "NoneType") := kit6 "NoneType" (fun t => t == "NoneType") (by decide +kernel) ht
theorem kit_bl {K : PySem.W.Frag} {t : String} (ht : t ∈ tysD) : PySem.W.kitOne K (.type "bool") (.type t) = some (t == "bool" || t == "int") := kit6 "bool" (fun t => t == "bool" || t == "int") (by decide +kernel) ht
theorem kit_int {K : PySem.W.Frag} {t : String} (ht : t ∈ tysD) : PySem.W.kitOne K (.type "int") (.type t) = some (t == "int") := kit6 "int" (fun t => t == "int") (by decide +kernel) ht
theorem kit_str {K : PySem.W.Frag} {t : String} (ht : t ∈ tysD) : PySem.W.kitOne K (.type "str") (.type t) = some (t == "str") := kit6 "str" (fun t => t == "str") (by decide +kernel) ht
theorem kit_tup {K : PySem.W.Frag} {t : String} (ht : t ∈ tysD) : PySem.W.kitOne K (.type "tuple") (.type t) = some (t == "tuple") := kit6 "tuple" (fun t => t == "tuple") (by decide +kernel) ht
theorem kit_lst {K : PySem.W.Frag} {t : String} (ht : t ∈ tysD) : PySem.W.kitOne K (.type "list") (.type t) = some (t == "list") := kit6 "list" (fun t => t == "list") (by decide +kernel) ht
theorem kit_dct {K : PySem.W.Frag} {t : String} (ht : t ∈ tysD) : PySem.W.kitOne K (.type "dict") (.type t) = some (t == "dict") := kit6 "dict" (fun t => t == "dict") (by decide +kernel) ht
theorem rc_isi {x : D} {t : String} {b : Bool} {Q : D → Prop} (ht : tysD.contains t = true) (hb : isiD x t = some b) (q : Q (.bl b)) : RC G (rIsi G.K) [x, .ty t] Q := fun Bh H vs al h Qv k => by
  have hm : t ∈ tysD := by simpa using ht
  cases h with
  | cons h hh =>
    cases hh with
    | cons h2 hh =>
      cases hh
      cases h2
      have go : ∀ {v : V} {u : String} {c : Bool}, TyX G.K H v (.type u) → PySem.W.kitOne G.K (.type u) (.type t) = some c → isiD x t = some c → rIsi G.K [v, .ty t] H Qv := fun {v u c} ty e ec => by
        rw [hb] at ec
        cases ec
        exact ⟨v, .ty t, .type u, .type t, b, rfl, .ty t, ty, e, k _ H _ (Ex.refl H) (.bl _) q⟩
      cases h with
      | non => exact go (.base .non) (kit_non hm) rfl
      | bl b => exact go (.base (.bl b)) (kit_bl hm) rfl
      | int i => exact go (.base (.int i)) (kit_int hm) rfl
      | str z => exact go (.base (.str z)) (kit_str hm) rfl
      | tup h1 r =>
        rcases h1 with (h1 | ⟨o, h1⟩) | ⟨o, its, n, h1, h2, _⟩
        · exact go (.base (.tup h1)) (kit_tup hm) rfl
        · exact go (.fTuple h1) (kit_tup hm) rfl
        · exact go (.kTuple h1 h2) (kit_tup hm) rfl
      | lst h1 n r => exact go (.base (.lst h1)) (kit_lst hm) rfl
      | dct h1 n e r => exact go (.base (.dK h1)) (kit_dct hm) rfl
      | ins h1 n e r => cases hb
      | adr a => cases hb
      | ty n => cases hb
      | dk h => cases hb
      | any v => cases hb
end

/-! ### promises -/
abbrev FD : Type := List D → (D → Prop) → Prop
def spD (G : Gx) (n : Nat) (F : FD) : Sp := fun vs H Q _ => ∃ (B : Addr → Prop) (ds : List D) (Q0 : D → Prop), G.tb H ∧ Alc B H ∧ DqL G B H vs ds ∧ ds.length = n ∧ F ds Q0 ∧ ∀ d v H', Q0 d → Ex G H H' → Dq G B H' v d → Q v H'
theorem spD_len {G : Gx} {n : Nat} {F : FD} (vs : List V) (H : Hp) (Q : VK) (E : XK) (h : spD G n F vs H Q E) : vs.length = n := by
  obtain ⟨B, ds, Q0, _, _, q, hl, _⟩ := h
  rw [q.length, hl]
/-- the slots at a def's entry -/
def ent (N : Nat) (ds : List D) : List Sl := ds.map Sl.d ++ List.replicate (N - ds.length) .no
theorem owns_ent (N : Nat) (ds : List D) : owns (ent N ds) = [] := by
  unfold owns ent
  rw [List.flatMap_append]
  have h1 : ∀ xs : List D, (xs.map Sl.d).flatMap Sl.ads = [] := fun xs => by
    induction xs with
    | nil => rfl
    | cons x xs ih => rw [List.map_cons, List.flatMap_cons, ih] <;> rfl
  have h2 : ∀ m : Nat, (List.replicate m Sl.no).flatMap Sl.ads = [] := fun m => by
    induction m with
    | zero => rfl
    | succ m ih => rw [List.replicate_succ, List.flatMap_cons, ih] <;> rfl
  rw [h1, h2] <;> rfl
theorem rho_ent {G : Gx} {B : Addr → Prop} {H : Hp} {N : List Str} {vs : List V} {ds : List D} (tb : G.tb H) (al : Alc B H) (q : DqL G B H vs ds) (hn : ds.length ≤ N.length) : Rho G B H H (L2.start N vs) (ent N.length ds) := by
  have ho := owns_ent N.length ds
  have hh : ∀ a, hid B (ent N.length ds) a → B a := fun a h => by
    rcases h with h | h
    · exact h
    · rw [ho] at h
      simp at h
  refine ⟨tb, Ex.refl H, al, fun a h => by rw [ho] at h; simp at h, ?_, fun i s h => ?_, fun a h => by rw [ho] at h; simp at h, fun a h => by rw [ho] at h; simp at h, by rw [ho]; exact List.nodup_nil⟩
  · unfold L2.start ent
    rw [List.length_append, List.length_append, List.length_map, List.length_map, List.length_replicate, List.length_replicate, q.length]
  · have hl := q.length
    by_cases hi : i < ds.length
    · unfold ent at h
      rw [List.getElem?_append_left (by simpa using hi), List.getElem?_map] at h
      cases e : ds[i]? with
      | none =>
        rw [e] at h
        cases h
      | some d =>
        rw [e] at h
        cases h
        obtain ⟨v, e1, e2⟩ := q.get e
        refine ⟨some v, ?_, v, rfl, e2.less hh⟩
        unfold L2.start
        rw [List.getElem?_append_left (by rw [List.length_map, hl]; exact hi), List.getElem?_map, e1] <;> rfl
    · unfold ent at h
      rw [List.getElem?_append_right (by simpa using Nat.not_lt.mp hi)] at h
      have hs : s = .no := by
        have := List.mem_of_getElem? h
        exact List.eq_of_mem_replicate this
      subst hs
      have hlt := (List.getElem?_eq_some_iff.mp h).1
      rw [List.length_replicate, List.length_map] at hlt
      refine ⟨none, ?_, trivial⟩
      unfold L2.start
      rw [List.getElem?_append_right (by rw [List.length_map, hl]; exact Nat.not_lt.mp hi), List.length_map, hl, List.getElem?_replicate, if_pos (by omega)]
/-- a def's body keeps its promise -/
theorem body_of {G : Gx} {N : List Str} {n : Nat} {F : FD} {t : TS} (hn : n ≤ N.length) (body : ∀ (B : Addr → Prop) (H : Hp) (ds : List D) (Q0 : D → Prop), ds.length = n → F ds Q0 → WS ⟨G, B, H⟩ t (ent N.length ds) { nx := fun _ => Q0 .non, rt := Q0 })
    {vs : List V} {H : Hp} {Q : VK} {E : XK} (h : spD G n F vs H Q E) : t { nx := fun _ H' => Q .non H', rt := Q } (L2.start N vs) H := by
  obtain ⟨B, ds, Q0, tb, al, q, hl, hF, hq⟩ := h
  refine body B H ds Q0 hl hF _ H _ (rho_ent tb al q (by omega)) ⟨fun σ' H' ρ' R _ z => hq _ _ _ z R.ex .non, fun v H' d e q z => hq d v H' z e q, fun _ _ _ _ _ z => z.elim, fun _ _ _ _ _ z => z.elim⟩
section
variable {S : Sc} {ρ : List Sl} {ta : TA}
theorem we_call {n : Nat} {F : FD} {E : XK} {Q : D → Prop} (h : WA S ta ρ fun ds => ds.length = n ∧ F ds Q) : WE S (tCall (spD S.G n F) [] E ta) ρ Q := fun σ H R Qv k =>
  h σ H R _ fun vs H1 ds e1 q1 ⟨hl, hF⟩ => by
    show spD S.G n F (vs ++ []) H1 Qv E
    rw [List.append_nil]
    exact ⟨_, ds, Q, e1.t R.tb, R.alc.mono e1, q1, hl, hF, fun d v H2 hq e2 qd => k v H2 d (e1.trans e2) qd hq⟩
end
/-- what a caller needs of a def: where the name leads, its promise -/
def Dfn (P : Program) (w : World) (K : PySem.W.Frag) (mg : Str → Option Value) (base : Heap) (x : Str) (ps : List Str) (k : Nat) (sp : Sp) : Prop :=
  ∃ (f : Addr) (fd : FuncData), mg x = some (.ref f) ∧ PySem.W.keepIn K (.ref f) = true ∧ Binds K fd ps [] ∧ FnOk P w K mg base CX0 k f fd ps sp
theorem pe_callD {X : Cx} {x : Str} {ps : List Str} {k : Nat} {sp : Sp} {e : Expr} {es : List Expr} {t : TA} {p pos : Pos} (h : Dfn X.prog X.w X.K X.mg X.base x ps k sp) (hr : Room k X.A) (ha : PA X (e :: es) t) (hg : Gl X x := by rfl)
    (hdb : (x == ("__debug__" : Str)) = false := by decide) (he : starEach (e :: es) X.env = (false, eval e X.env) :: starEach es X.env := by rfl) (hpl : (backTo pos (starEach es X.env)).any (·.1) = false := by rfl) :
    PE X (.Call (.Name x p) (e :: es) [] pos) (tCall sp [] E0 t) := by
  obtain ⟨f, fd, hm, kp, b, F⟩ := h
  exact pe_call F hr hg hm kp b .nil pass0 ha hdb he hpl
/-- a constant of the module -/
def Cst (mg : Str → Option Value) (x : Str) (v : V) : Prop := ∃ u, mg x = some u ∧ RelV v u
theorem pe_cst {X : Cx} {x : Str} {v : V} {pos : Pos} (h : Cst X.mg x v) (hg : Gl X x := by rfl) (hd : (x == ("__debug__" : Str)) = false := by decide) : PE X (.Name x pos) (tC v) := by
  obtain ⟨u, h1, h2⟩ := h
  exact pe_glob hg h1 h2 hd
end Sw
end

section
set_option Elab.async false
set_option autoImplicit false
set_option linter.all false
set_option maxRecDepth 100000
set_option maxHeartbeats 4000000
namespace Sw
open PySem PySem.Spec PyProof.Rows L2
def dkv (b : Addr) (m d : Int) : List (Key × V) := [(.inr "left", .ref b), (.inr "mixed", .int m), (.inr "draws", .int d)]
def DkA (P : Program) (w : World) (a b : Addr) : HO := .ext fun h => (a == sysModules) = false ∧ ∃ m d vs, KV (dkv b m d) vs ∧ h.DictOf (mixKind P w) a vs
def DkB (b : Addr) : HO := .ext fun h => ∃ (xs : List Int) (its : List Value) (n : Nat), xs.length ≤ 1000 ∧ Vals (xs.map V.int) its ∧ h.get? b = some { cls := .type "list", data := .seq its.toArray n }
def isDk (P : Program) (w : World) (H : Hp) (a : Addr) : Prop := ∃ b, a ≠ b ∧ H a = some (DkA P w a b) ∧ H b = some (DkB b)
/-- written by hand, or a deck's -/
def MayWr (P : Program) (w : World) (a : Addr) (o : HO) : Prop := Wr o ∨ (∃ b, o = DkA P w a b) ∨ o = DkB a
theorem isDk_keep {P : Program} {w : World} {H H' : Hp} {a : Addr} (e : ∀ b φ, H b = some (.ext φ) → H' b = some (.ext φ)) (h : isDk P w H a) : isDk P w H' a := by
  obtain ⟨b, n, h1, h2⟩ := h
  exact ⟨b, n, e _ _ h1, e _ _ h2⟩
section
variable {P : Program} {w : World} {H H1 : Hp} {h : Heap}
/-- objects lean on tuples and instances' dicts alone -/
theorem objOk_other (ht : ∀ q xs, H q = some (.tup xs) → H1 q = some (.tup xs)) (ho : ∀ q x, H q = some (.own x) → H1 q = some (.own x)) {c : Addr} : ∀ {o : HO}, ObjOk P w H h c o → ObjOk P w H1 h c o
  | .lst _, x => x
  | .tup _, x => x
  | .dK _, x => x
  | .dT _, ⟨z, s, xs, p, r⟩ => ⟨z, s, xs, L2.Paired.mapP p fun _ _ ⟨e1, e2, e3⟩ => ⟨e1, ht _ _ e2, e3⟩, r⟩
  | .set _ _, x => x
  | .ins _ _ _, ⟨e, r⟩ => ⟨ho _ _ e, r⟩
  | .own _, x => x
  | .xd _, x => x
  | .met _ _, x => x
  | .rng _ _, x => x
  | .frz _ _, ⟨e, x⟩ => ⟨e, objOk_other ht ho x⟩
  | .tbl _, x => x
  | .ext _, x => x
/-- two objects seen otherwise -/
theorem hok_two {a b : Addr} {o p : HO} (k : HOk P w H h) (na : ∀ xs, H a ≠ some (.tup xs)) (na' : ∀ x, H a ≠ some (.own x)) (nb : ∀ xs, H b ≠ some (.tup xs)) (nb' : ∀ x, H b ≠ some (.own x))
    (ha : ∀ H1, ObjOk P w H1 h a o) (hb : ∀ H1, ObjOk P w H1 h b p) : HOk P w (upd (upd H a o) b p) h := by
  have keep : ∀ c u, H c = some u → c ≠ a → c ≠ b → upd (upd H a o) b p c = some u := fun c u e h1 h2 => by rw [upd_ne h2, upd_ne h1]; exact e
  have ht : ∀ q xs, H q = some (.tup xs) → upd (upd H a o) b p q = some (.tup xs) := fun q xs e => keep q _ e (fun z => na xs (z ▸ e)) (fun z => nb xs (z ▸ e))
  have ho : ∀ q x, H q = some (.own x) → upd (upd H a o) b p q = some (.own x) := fun q xs e => keep q _ e (fun z => na' xs (z ▸ e)) (fun z => nb' xs (z ▸ e))
  intro c u e
  by_cases h2 : c = b
  · subst h2
    rw [upd_same] at e
    cases e
    exact hb _
  · by_cases h1 : c = a
    · subst h1
      rw [upd_ne h2, upd_same] at e
      cases e
      exact ha _
    · rw [upd_ne h2, upd_ne h1] at e
      exact objOk_other ht ho (k c u e)
theorem open_hok {a b : Addr} (k : HOk P w H h) (n : a ≠ b) (h1 : H a = some (DkA P w a b)) (h2 : H b = some (DkB b)) : ∃ (m d : Int) (xs : List Int), xs.length ≤ 1000 ∧ HOk P w (upd (upd H a (.dK (dkv b m d))) b (.lst (xs.map V.int))) h := by
  obtain ⟨⟨s, m, d, vs, kv, dd⟩, _⟩ := k a _ h1
  obtain ⟨⟨xs, its, c, hz, rv, g⟩, _⟩ := k b _ h2
  refine ⟨m, d, xs, hz, hok_two k (fun _ e => ?_) (fun _ e => ?_) (fun _ e => ?_) (fun _ e => ?_) (fun _ => ⟨?_, s, vs, kv, dd⟩) fun _ => ⟨?_, its, c, rv, g⟩⟩
  · rw [h1] at e; cases e
  · rw [h1] at e; cases e
  · rw [h2] at e; cases e
  · rw [h2] at e; cases e
  · show 3 ≤ sizeLine
    decide
  · rw [List.length_map]
    have : 1000 ≤ sizeLine := by decide
    omega
theorem close_hok {a b : Addr} {m d : Int} {xs : List Int} (k : HOk P w H h) (n : a ≠ b) (h1 : H a = some (.dK (dkv b m d))) (h2 : H b = some (.lst (xs.map V.int))) (hz : xs.length ≤ 1000) : HOk P w (upd (upd H a (DkA P w a b)) b (DkB b)) h := by
  obtain ⟨_, s, vs, kv, dd⟩ := k a _ h1
  obtain ⟨_, its, c, rv, g⟩ := k b _ h2
  refine hok_two k (fun _ e => ?_) (fun _ e => ?_) (fun _ e => ?_) (fun _ e => ?_) (fun _ => ⟨⟨s, m, d, vs, kv, dd⟩, ?_, fun x y ⟨s, m, d, vs, kv, dd⟩ e => ⟨s, m, d, vs, kv, dd.at e⟩⟩) fun _ => ⟨⟨xs, its, c, hz, rv, g⟩, ⟨_, g⟩, fun x y ⟨xs, its, c, hz, rv, g⟩ e => ⟨xs, its, c, hz, rv, e _ g⟩⟩
  · rw [h1] at e; cases e
  · rw [h1] at e; cases e
  · rw [h2] at e; cases e
  · rw [h2] at e; cases e
  · obtain ⟨o, _, _, ho, _⟩ := dd
    exact ⟨o, ho⟩
/-- H seen otherwise at two places that stand in it -/
theorem un_two {fs : List Addr} {H' : Hp} {h' : Heap} {a b : Addr} {o p o' p' : HO} (sa : H a ≠ none) (sb : H b ≠ none) (na : ∀ xs, H a ≠ some (.tup xs)) (na2 : ∀ x y, H a ≠ some (.frz x y)) (na3 : ∀ x, H a ≠ some (.tbl x)) (nb : ∀ xs, H b ≠ some (.tup xs)) (nb2 : ∀ x y, H b ≠ some (.frz x y)) (nb3 : ∀ x, H b ≠ some (.tbl x))
    (u : Un fs [] (upd (upd H a o) b p) H' h h') : Un fs [] H (upd (upd H' a o') b p') h h' := by
  have n1 : ∀ c, H c = none → c ≠ a ∧ c ≠ b := fun c e => ⟨fun z => sa (z ▸ e), fun z => sb (z ▸ e)⟩
  have k1 : ∀ c, c ≠ a ∧ c ≠ b → upd (upd H a o) b p c = H c := fun c z => by rw [upd_ne z.2, upd_ne z.1]
  have k2 : ∀ c, c ≠ a ∧ c ≠ b → upd (upd H' a o') b p' c = H' c := fun c z => by rw [upd_ne z.2, upd_ne z.1]
  refine ⟨fun c ob e n => u.keep c ob e (by rw [k1 c (n1 c n)]; exact n), fun c ob e n => u.slot c ob e (by rw [k1 c (n1 c n)]; exact n), fun c ob e n x => ?_, u.there, fun c xs e => ?_, fun c x y e => ?_, fun c x e => ?_⟩
  · rw [k2 c (n1 c n)]
    exact u.free c ob e (by rw [k1 c (n1 c n)]; exact n) x
  · have z : c ≠ a ∧ c ≠ b := ⟨fun z => na xs (z ▸ e), fun z => nb xs (z ▸ e)⟩
    rw [k2 c z]
    exact u.tups c xs (by rw [k1 c z]; exact e)
  · have z : c ≠ a ∧ c ≠ b := ⟨fun z => na2 x y (z ▸ e), fun z => nb2 x y (z ▸ e)⟩
    rw [k2 c z]
    exact u.frzs c x y (by rw [k1 c z]; exact e)
  · have z : c ≠ a ∧ c ≠ b := ⟨fun z => na3 x (z ▸ e), fun z => nb3 x (z ▸ e)⟩
    rw [k2 c z]
    exact u.tbls c x (by rw [k1 c z]; exact e)
end
def F_draw : FD := fun ds Q => ∃ many : Int, ds = [.dk, .int many] ∧ 0 < many ∧ many ≤ 1000 ∧ ∀ r : Int, 0 ≤ r → r < many → Q (.int r)
/-- what a draw does to the deck as it is -/
def spDr (G : Gx) : Sp := fun vs H Q _ => ∃ (a b : Addr) (m d : Int) (xs : List Int) (many : Int), vs = [.ref a, .int many] ∧ a ≠ b ∧ H a = some (.dK (dkv b m d)) ∧ H b = some (.lst (xs.map V.int)) ∧ xs.length ≤ 1000 ∧ 0 < many ∧ many ≤ 1000 ∧
  ∀ (r : Int) (H' : Hp) (m' d' : Int) (xs' : List Int), 0 ≤ r → r < many → H' a = some (.dK (dkv b m' d')) → H' b = some (.lst (xs'.map V.int)) → xs'.length ≤ 1000 → (∀ c o, H c = some o → nt o → c ≠ a → c ≠ b → H' c = some o) → (∀ c, H' c = none → H c = none) → (G.tb H → G.tb H') → Q (.int r) H'
theorem wrap_draw {G : Gx} {mg : Str → Option Value} {base : Heap} {k : Nat} {f : Addr} {fd : FuncData} {ps : List Str} (hdk : ∀ H a, G.dk H a ↔ isDk G.P G.w H a) (htb : ∀ H a o o', H a = some o → MayWr G.P G.w a o → G.tb H → G.tb (upd H a o')) (hps : ps.length = 2) (F : FnOk G.P G.w G.K mg base CX0 k f fd ps (spDr G)) : FnOk G.P G.w G.K mg base CX0 k f fd ps (spD G 2 F_draw) := by
  refine ⟨fun vs H Q E h => by rw [hps]; exact spD_len vs H Q E h, fun A outer s H args us vs Q E hr e0 hb hv h => ?_⟩
  obtain ⟨B, ds, Q0, tb, al, q, hl, ⟨many, rfl, m1, m2, hq⟩, k⟩ := h
  cases q with
  | cons q1 q => cases q with
  | cons q2 q =>
  cases q
  have e2 := dq_int q2
  subst e2
  cases q1 with
  | @dk a hd =>
  obtain ⟨b, n, h1, h2⟩ := (hdk H a).mp hd
  obtain ⟨m, d, xs, hz, hok⟩ := open_hok e0.hok n h1 h2
  have sa : H a ≠ none := by rw [h1]; exact fun z => nomatch z
  have sb : H b ≠ none := by rw [h2]; exact fun z => nomatch z
  have n1 : ∀ c, H c = none → c ≠ a ∧ c ≠ b := fun c e => ⟨fun z => sa (z ▸ e), fun z => sb (z ▸ e)⟩
  have k1 : ∀ c, c ≠ a ∧ c ≠ b → upd (upd H a (.dK (dkv b m d))) b (.lst (xs.map V.int)) c = H c := fun c z => by rw [upd_ne z.2, upd_ne z.1]
  have env : Env0 G.P G.w G.K mg base A outer s (upd (upd H a (.dK (dkv b m d))) b (.lst (xs.map V.int))) :=
    ⟨e0.frames, e0.mod, fun c o e => ⟨(e0.bs c o e).1, by rw [k1 c (n1 c (e0.bs c o e).2)]; exact (e0.bs c o e).2⟩, e0.bsz, e0.funs, fun c hc => by rw [k1 c (n1 c (e0.frf c hc))]; exact e0.frf c hc, hok, e0.bare⟩
  refine codeAny_mono (F.run A outer s _ args us [.ref a, .int many] (fun v H' => ∃ (r m' d' : Int) (xs' : List Int), v = .int r ∧ 0 ≤ r ∧ r < many ∧ H' a = some (.dK (dkv b m' d')) ∧ H' b = some (.lst (xs'.map V.int)) ∧ xs'.length ≤ 1000 ∧ (∀ c o, upd (upd H a (.dK (dkv b m d))) b (.lst (xs.map V.int)) c = some o → nt o → c ≠ a → c ≠ b → H' c = some o) ∧ (∀ c, H' c = none → upd (upd H a (.dK (dkv b m d))) b (.lst (xs.map V.int)) c = none) ∧ (G.tb (upd (upd H a (.dK (dkv b m d))) b (.lst (xs.map V.int))) → G.tb H')) E hr env hb hv
    ⟨a, b, m, d, xs, many, rfl, n, by rw [upd_ne n]; exact upd_same, upd_same, hz, m1, m2, fun r H' m' d' xs' r1 r2 g1 g2 g3 g4 g5 g6 => ⟨r, m', d', xs', rfl, r1, r2, g1, g2, g3, g4, g5, g6⟩⟩) fun r s' hr' => ?_
  cases r with
  | error e => exact hr'.elim
  | ok fl =>
    cases fl with
    | ret u =>
      obtain ⟨v, H', os, bare, un, hok', rel, r, m', d', xs', rfl, r1, r2, g1, g2, g3, g4, g5, g6⟩ := hr'
      have ev : Ex G H (upd (upd H' a (DkA G.P G.w a b)) b (DkB b)) := by
        refine ⟨fun c o e no => ?_, fun c e => ?_, fun t => ?_⟩
        · by_cases cb : c = b
          · subst cb
            rw [h2] at e
            rw [upd_same]
            exact e
          · by_cases ca : c = a
            · subst ca
              rw [h1] at e
              rw [upd_ne cb, upd_same]
              exact e
            · rw [upd_ne cb, upd_ne ca]
              exact g4 c o (by rw [upd_ne cb, upd_ne ca]; exact e) no ca cb
        · by_cases cb : c = b
          · subst cb
            rw [upd_same] at e
            cases e
          · by_cases ca : c = a
            · subst ca
              rw [upd_ne cb, upd_same] at e
              cases e
            · rw [upd_ne cb, upd_ne ca] at e
              have := g5 c e
              rw [upd_ne cb, upd_ne ca] at this
              exact this
        · have t1 := htb H a _ (.dK (dkv b m d)) h1 (.inr (.inl ⟨_, rfl⟩)) t
          have t2 := htb _ b _ (.lst (xs.map V.int)) (show upd H a (.dK (dkv b m d)) b = some (DkB b) by rw [upd_ne (Ne.symm n)]; exact h2) (.inr (.inr rfl)) t1
          have t3 := htb H' a _ (DkA G.P G.w a b) g1 (.inl trivial) (g6 t2)
          exact htb _ b _ (DkB b) (show upd H' a (DkA G.P G.w a b) b = some (.lst (xs'.map V.int)) by rw [upd_ne (Ne.symm n)]; exact g2) (.inl trivial) t3
      refine ⟨.int r, _, os, bare, un_two sa sb ?_ ?_ ?_ ?_ ?_ ?_ un, close_hok hok' n g1 g2 g3, rel, k (.int r) (.int r) _ (hq r r1 r2) ev (.int r)⟩
      all_goals first
        | (intro x e; rw [h1] at e; cases e) | (intro x y e; rw [h1] at e; cases e) | (intro x e; rw [h2] at e; cases e) | (intro x y e; rw [h2] at e; cases e)
    | next => exact hr'
    | brk => exact hr'
    | cont => exact hr'
end Sw
end

section
set_option Elab.async false
set_option autoImplicit false
set_option linter.all false
set_option maxRecDepth 100000
set_option maxHeartbeats 4000000
namespace Sw
open PySem PySem.Spec PyProof.Rows L2
abbrev AlX : Type := He.AlD × Bool
def obsX (fa : List He.Fa) (fn : List He.DefD) (ex : PySem.W.Frag → Bool) (K : PySem.W.Frag) : AlX := (He.obsD fa fn K, ex K)
def obsXG (n : Nat) (fa : List He.Fa) (fn : List He.DefD) (ex : PySem.W.Frag → Bool) (g : Addr → Option Obj) : AlX := obsX fa fn ex (He.frG g (He.asD g n))
def hookX (n : Nat) (fa : List He.Fa) (fn : List He.DefD) (ex : PySem.W.Frag → Bool) : PySem.W.Hook where
  α := AlX
  obs := fun s => obsXG n fa fn ex s.heap.get?
  val := fun _ => (He.valD fn, true)
  says := fun _ h => ∃ K : PySem.W.Frag, K.In h ∧ He.SaysD fa fn K ∧ ex K = true
  of := fun _ _ e => ⟨_, He.frG_in, congrArg (fun z : AlX => z.1) e, congrArg (fun z : AlX => z.2) e⟩
  keeps := fun _ _ _ ⟨K, hK, c⟩ k => ⟨K, PySem.W.Frag.In.keeps hK k, c⟩
theorem obsXG_eq {n : Nat} {fa : List He.Fa} {fn : List He.DefD} {ex : PySem.W.Frag → Bool} {g : Addr → Option Obj} {s : Shared} (h : ∀ a, g a = s.heap.get? a) : obsXG n fa fn ex g = (hookX n fa fn ex).obs s := by
  have e : g = s.heap.get? := funext h
  rw [e] <;> rfl
end Sw
end

section
set_option Elab.async false
set_option autoImplicit false
set_option linter.all false
set_option maxRecDepth 100000
set_option maxHeartbeats 4000000
namespace Sw
open PySem PySem.Spec PyProof.Rows L2
/-- a def found by a path -/
abbrev XD : Type := (PySem.W.Frag → Addr) × He.DefD
def fnAt (K : PySem.W.Frag) (a : Addr) : He.FnW := match K.lookup a with
  | some ⟨_, _, .func fd, _⟩ => some (fd.name, fd.qualname, fd.params, fd.body, fd.scope, fd.globals, fd.closure, fd.builtins)
  | _ => none
def okAt (K : PySem.W.Frag) (a : Addr) (d : He.DefD) : Bool := PySem.W.keepIn K (.ref a) && (match K.lookup a with
  | some ⟨_, _, .func fd, _⟩ => PySem.W.codeIn K fd.code d.qual && (He.dflB K fd.defaults (d.dvs K) && He.kwdB K fd.kwdefaults (d.kws K))
  | _ => false)
theorem funD_at {K : PySem.W.Frag} {a : Addr} {d : He.DefD} (e : fnAt K a = d.val) (c : okAt K a d = true) : ∃ fd, FunD K d.name d.qual d.params d.body d.scope (d.dvs K) (d.kws K) a fd := by
  obtain ⟨kp, c2⟩ := He.ba c
  unfold fnAt at e
  cases q : K.lookup a with
  | none =>
    rw [q] at c2
    cases c2
  | some o =>
    obtain ⟨oc, od, dt, osl⟩ := o
    rw [q] at c2 e
    cases dt with
    | func fd =>
      obtain ⟨m1, m2, m3, m4, m5, m6, m7, m8, m9, m10, m11, m12, m13, m14, m15⟩ := fd
      have e2 : (some (m1, m2, m3, m4, m5, m6, m7, m15) : He.FnW) = some (d.name, d.qual, d.params, .stmts d.body, d.scope, mainGlobals, [], builtinsNs) := e
      simp only [Option.some.injEq, Prod.mk.injEq] at e2
      obtain ⟨h1, h2, h3, h4, h5, h6, h7, h8⟩ := e2
      subst h1 h2 h3 h4 h5 h6 h7 h8
      obtain ⟨k1, k2⟩ := He.ba (show (PySem.W.codeIn K m13 d.qual && (He.dflB K m8 (d.dvs K) && He.kwdB K m9 (d.kws K))) = true from c2)
      obtain ⟨k3, k4⟩ := He.ba k2
      exact ⟨_, ⟨oc, od, m8, m9, m10, m11, m12, m13, m14, osl, rfl, q, k1, He.dflB_ok k3, He.kwdB_ok k4⟩, kp⟩
    | _ => cases c2
/-- the first item of a record, if it is an object -/
def recHd (K : PySem.W.Frag) (p : Addr) (T : String) : Addr := match PySem.W.recIn K p T with
  | some (.ref g :: _) => g
  | _ => 0
def recB (K : PySem.W.Frag) (p : Addr) (T : String) : Bool := match PySem.W.recIn K p T with
  | some (.ref _ :: _) => true
  | _ => false
theorem recB_ok {K : PySem.W.Frag} {p : Addr} {T : String} (h : recB K p T = true) : ∃ rest, PySem.W.recIn K p T = some (.ref (recHd K p T) :: rest) := by
  unfold recB at h
  unfold recHd
  split at h
  · rename_i g r e
    rw [e]
    exact ⟨r, rfl⟩
  · cases h
/-- a classmethod, a property, == of one's own, isinstance -/
def cmB (K : PySem.W.Frag) (C : Addr) (m : Str) : Bool := PySem.W.readsIn K C (.type "type") && (He.eqO (PySem.W.specialIn K (.ref C) "__getattribute__") (some (some (.builtin "type.__getattribute__"))) &&
  ((match PySem.W.findCls K (.ref C) (.type "type") m with
    | some (.get a b c d) => decide (a = .builtin "classmethod.__get__") && (decide (b = .ref (He.ma K C m)) && (decide (c = .none) && decide (d = .ref C)))
    | _ => false) && (recB K (He.ma K C m) "classmethod" && PySem.W.fnIn K (recHd K (He.ma K C m) "classmethod"))))
theorem cmB_ok {K : PySem.W.Frag} {C : Addr} {m : Str} (h : cmB K C m = true) : ClX.CRead K C (.type "type") ∧ ClX.CMet K C (.type "type") m (He.ma K C m) (recHd K (He.ma K C m) "classmethod") := by
  obtain ⟨h1, h⟩ := He.ba h
  obtain ⟨h2, h⟩ := He.ba h
  obtain ⟨h3, h⟩ := He.ba h
  obtain ⟨h4, h5⟩ := He.ba h
  refine ⟨⟨h1, He.eqO_ok h2⟩, ?_, recB_ok h4, h5⟩
  split at h3
  · rename_i a b c d e
    obtain ⟨g1, h3⟩ := He.ba h3
    obtain ⟨g2, h3⟩ := He.ba h3
    obtain ⟨g3, g4⟩ := He.ba h3
    rw [e, of_decide_eq_true g1, of_decide_eq_true g2, of_decide_eq_true g3, of_decide_eq_true g4]
  · cases h3
def prB (K : PySem.W.Frag) (C : Addr) (m : Str) : Bool := He.eqO (PySem.W.findIn K (.ref C) m) (some (some (.ref (He.ma K C m)))) && (He.eqO (PySem.W.specialIn K (.ref (He.ma K C m)) "__get__") (some (some (.builtin "property.__get__"))) &&
  (decide (PySem.W.takesIn K (.ref (He.ma K C m)) = some true) && recB K (He.ma K C m) "property"))
theorem prB_ok {K : PySem.W.Frag} {C : Addr} {m : Str} (h : prB K C m = true) : L2.PropOf K C m (He.ma K C m) (recHd K (He.ma K C m) "property") := by
  obtain ⟨h1, h⟩ := He.ba h
  obtain ⟨h2, h⟩ := He.ba h
  obtain ⟨h3, h4⟩ := He.ba h
  exact ⟨He.eqO_ok h1, He.eqO_ok h2, of_decide_eq_true h3, recB_ok h4⟩
def isB (K : PySem.W.Frag) (C : Addr) : Bool := He.eqO (PySem.W.findIn K (.ref C) "__class__") (some (some (.builtin "object.__class__"))) && (He.eqO (PySem.W.specialIn K (.builtin "object.__class__") "__get__") (some (some (.builtin "getset_descriptor.__get__"))) &&
  (decide (PySem.W.takesIn K (.builtin "object.__class__") = some true) && (decide (PySem.W.mroIn K C (.type "object") = some true) && decide (PySem.W.kitOne K (.ref C) (.ref C) = some true))))
theorem isB_ok {K : PySem.W.Frag} {C : Addr} (cl : Cls K C) (h : isB K C = true) : (∀ {H : Hp} {a dx : Addr} {fs : List (Str × V)}, H a = some (.ins C dx fs) → TyX K H (.ref a) (.ref C)) ∧ PySem.W.kitOne K (.ref C) (.ref C) = some true := by
  obtain ⟨h1, h⟩ := He.ba h
  obtain ⟨h2, h⟩ := He.ba h
  obtain ⟨h3, h⟩ := He.ba h
  obtain ⟨h4, h5⟩ := He.ba h
  exact ⟨fun e => .base (.ins e cl (He.eqO_ok h1) (He.eqO_ok h2) (of_decide_eq_true h3) (of_decide_eq_true h4)), of_decide_eq_true h5⟩
/-! the Hook -/
structure SaysZ (fa : List He.Fa) (fn : List He.DefD) (xs : List XD) (tf : List He.Defn) (ex : PySem.W.Frag → Bool) (h : Heap) (K : PySem.W.Frag) : Prop where
  says : He.SaysD fa fn K
  paths : ∀ x ∈ xs, fnAt K (x.1 K) = x.2.val ∧ okAt K (x.1 K) x.2 = true
  more : ex K = true
  hd : ∀ p ∈ tf, PySem.W.codeHdIn K (He.cT K p).1 (He.cT K p).2 = true
  out : ∀ p ∈ tf, K.lookup (He.cT K p).2 = none
  empty : ∀ p ∈ tf, h.get? (He.cT K p).2 = some { cls := .none, data := .fields #[] }
abbrev AlZ : Type := He.AlD × List He.FnW × Bool
def obsZ (as : (Addr → Option Obj) → List Addr) (fa : List He.Fa) (fn : List He.DefD) (xs : List XD) (tf : List He.Defn) (ex : PySem.W.Frag → Bool) (g : Addr → Option Obj) : AlZ :=
  (fun K : PySem.W.Frag => (He.obsD fa fn K, xs.map (fun x => fnAt K (x.1 K)), (xs.all fun x => okAt K (x.1 K) x.2) && (ex K && He.tabsB g tf K))) (He.frT g (as g))
def valZ (fn : List He.DefD) (xs : List XD) : AlZ := (He.valD fn, xs.map fun x => x.2.val, true)
theorem map_eq_mem {α β : Type} {f g : α → β} : ∀ {xs : List α}, xs.map f = xs.map g → ∀ x ∈ xs, f x = g x
  | [], _, x, h => by cases h
  | y :: ys, e, x, h => by
    rw [List.map_cons, List.map_cons] at e
    injection e with e1 e2
    rcases List.mem_cons.mp h with z | z
    · rw [z]
      exact e1
    · exact map_eq_mem e2 x z
theorem saysZ_of {as : (Addr → Option Obj) → List Addr} {fa : List He.Fa} {fn : List He.DefD} {xs : List XD} {tf : List He.Defn} {ex : PySem.W.Frag → Bool} {h : Heap} (e : obsZ as fa fn xs tf ex h.get? = valZ fn xs) : SaysZ fa fn xs tf ex h (He.frT h.get? (as h.get?)) := by
  have e1 : He.obsD fa fn (He.frT h.get? (as h.get?)) = He.valD fn := congrArg (fun z : AlZ => z.1) e
  have e2 : xs.map (fun x => fnAt (He.frT h.get? (as h.get?)) (x.1 (He.frT h.get? (as h.get?)))) = xs.map fun x => x.2.val := congrArg (fun z : AlZ => z.2.1) e
  have e3 : ((xs.all fun x => okAt (He.frT h.get? (as h.get?)) (x.1 (He.frT h.get? (as h.get?))) x.2) && (ex (He.frT h.get? (as h.get?)) && He.tabsB h.get? tf (He.frT h.get? (as h.get?)))) = true := congrArg (fun z : AlZ => z.2.2) e
  obtain ⟨k1, k2⟩ := He.ba e3
  obtain ⟨k2, k3⟩ := He.ba k2
  have key : ∀ p ∈ tf, PySem.W.codeHdIn (He.frT h.get? (as h.get?)) (He.cT (He.frT h.get? (as h.get?)) p).1 (He.cT (He.frT h.get? (as h.get?)) p).2 = true ∧ ∃ o, h.get? (He.cT (He.frT h.get? (as h.get?)) p).2 = some o ∧ He.emptyTab o = true := fun p hp => by
    obtain ⟨h3, h4⟩ := He.ba (List.all_eq_true.mp k3 p hp)
    refine ⟨h3, ?_⟩
    cases q : h.get? (He.cT (He.frT h.get? (as h.get?)) p).2 with
    | none =>
      rw [q] at h4
      cases h4
    | some o =>
      rw [q] at h4
      exact ⟨o, rfl, h4⟩
  refine ⟨e1, fun x hx => ⟨map_eq_mem e2 x hx, List.all_eq_true.mp k1 x hx⟩, k2, fun p hp => (key p hp).1, fun p hp => ?_, fun p hp => ?_⟩
  · obtain ⟨_, o, q, z⟩ := key p hp
    exact He.frT_none q z
  · obtain ⟨_, o, q, z⟩ := key p hp
    rw [q, He.emptyTab_eq z]
def hookZ (as : (Addr → Option Obj) → List Addr) (fa : List He.Fa) (fn : List He.DefD) (xs : List XD) (tf : List He.Defn) (ex : PySem.W.Frag → Bool) : PySem.W.Hook where
  α := AlZ
  obs := fun s => obsZ as fa fn xs tf ex s.heap.get?
  val := fun _ => valZ fn xs
  says := fun _ h => ∃ K : PySem.W.Frag, K.In h ∧ SaysZ fa fn xs tf ex h K
  of := fun _ _ e => ⟨_, He.frT_in, saysZ_of e⟩
  keeps := fun _ _ _ ⟨K, hK, c⟩ k => ⟨K, PySem.W.Frag.In.keeps hK k, ⟨c.says, c.paths, c.more, c.hd, c.out, fun p hp => k _ _ (c.empty p hp)⟩⟩
theorem obsZ_eq {as : (Addr → Option Obj) → List Addr} {fa : List He.Fa} {fn : List He.DefD} {xs : List XD} {tf : List He.Defn} {ex : PySem.W.Frag → Bool} {g : Addr → Option Obj} {s : Shared} (h : ∀ a, g a = s.heap.get? a) : obsZ as fa fn xs tf ex g = (hookZ as fa fn xs tf ex).obs s := by
  have e : g = s.heap.get? := funext h
  rw [e] <;> rfl
/-- what the module's names reach in two steps, what a class of it reaches in four -/
def asZ (x : Str) (g : Addr → Option Obj) : List Addr := cStatics :: ((fun A => A ++ He.growD g (He.growD g (He.growD g (He.growD g [He.ga (He.frG g A) x])))) (He.asD g 2))
/-- of more facts and defs: those in front -/
theorem says_front {fa fa' : List He.Fa} {fn fn' : List He.DefD} {K : PySem.W.Frag} (h : He.SaysD (fa ++ fa') (fn ++ fn') K) : He.SaysD fa fn K := by
  have e1 : (((fa ++ fa').all fun f => f.ok K) && (fn ++ fn').all fun d => d.ok K) = true := congrArg (fun z : He.AlD => z.1) h
  have e2 : (fn ++ fn').map (fun d => He.fnW K d.at_) = (fn ++ fn').map He.DefD.val := congrArg (fun z : He.AlD => z.2) h
  obtain ⟨k1, k2⟩ := He.ba e1
  rw [List.all_append] at k1 k2
  rw [List.map_append, List.map_append] at e2
  have e3 := (List.append_inj e2 (by simp)).1
  show (_, _) = (_, _)
  rw [(He.ba k1).1, (He.ba k2).1, e3]
  rfl
end Sw
end

section
set_option Elab.async false
set_option autoImplicit false
set_option linter.all false
set_option maxRecDepth 100000
set_option maxHeartbeats 4000000
namespace Sw
open PySem PySem.Spec PyProof.Rows L2
/-- every sign of a text is one -/
abbrev sOk (x : Str) : Prop := PyData.strOk x = true
-- plain data (no truth values), nested at most n deep
mutual
def okD : Nat → D → Bool
  | _, .non => true
  | _, .int _ => true
  | _, .str x => PyData.strOk x
  | 0, _ => false
  | n + 1, .tup xs => okDs n xs
  | n + 1, .lst xs => okDs n xs
  | _, _ => false
def okDs : Nat → List D → Bool
  | _, [] => true
  | n, d :: ds => okD n d && okDs n ds
end
mutual
def pyT : D → PyData
  | .non => .none
  | .bl b => .bool b
  | .int i => .int i
  | .str x => .str x
  | .tup xs => .tuple (pyTs xs)
  | .lst xs => .list (pyTs xs)
  | _ => .none
def pyTs : List D → List PyData
  | [] => []
  | d :: ds => pyT d :: pyTs ds
end
theorem okDs_all {n : Nat} : ∀ {ds : List D}, okDs n ds = true ↔ ∀ d ∈ ds, okD n d = true
  | [] => by simp [okDs]
  | d :: ds => by
    have h := okDs_all (n := n) (ds := ds)
    simp only [okDs, Bool.and_eq_true, List.mem_cons, forall_eq_or_imp, h]
mutual
theorem okD_py : ∀ (n : Nat) (d : D), okD n d = true → py d = some (pyT d) ∧ (pyT d).canLay0 = true ∧ (pyT d).depth ≤ n
  | n, .non, _ => ⟨by simp [py, pyT], by simp [pyT, PyData.canLay0], by simp [pyT, PyData.depth]⟩
  | n, .int i, _ => ⟨by simp [py, pyT], by simp [pyT, PyData.canLay0], by simp [pyT, PyData.depth]⟩
  | n, .str x, h => ⟨by simp [py, pyT], by simpa [pyT, PyData.canLay0, okD] using h, by simp [pyT, PyData.depth]⟩
  | n + 1, .tup xs, h => by
    obtain ⟨h1, h2, h3⟩ := okDs_py n xs (by simpa [okD] using h)
    exact ⟨by simp [py, pyT, h1], by simpa [pyT, PyData.canLay0] using h2, by simp [pyT, PyData.depth]; omega⟩
  | n + 1, .lst xs, h => by
    obtain ⟨h1, h2, h3⟩ := okDs_py n xs (by simpa [okD] using h)
    exact ⟨by simp [py, pyT, h1], by simpa [pyT, PyData.canLay0] using h2, by simp [pyT, PyData.depth]; omega⟩
  | 0, .tup xs, h => by simp [okD] at h
  | 0, .lst xs, h => by simp [okD] at h
  | n, .bl b, h => by cases n <;> simp [okD] at h
  | n, .dct b, h => by cases n <;> simp [okD] at h
  | n, .ins _ b, h => by cases n <;> simp [okD] at h
  | n, .adr b, h => by cases n <;> simp [okD] at h
  | n, .ty b, h => by cases n <;> simp [okD] at h
  | n, .dk, h => by cases n <;> simp [okD] at h
  | n, .any, h => by cases n <;> simp [okD] at h
theorem okDs_py : ∀ (n : Nat) (ds : List D), okDs n ds = true → pys ds = some (pyTs ds) ∧ PyData.canLayAll0 (pyTs ds) = true ∧ PyData.depthAll (pyTs ds) ≤ n
  | n, [], _ => ⟨by simp [pys, pyTs], by simp [pyTs, PyData.canLayAll0], by simp [pyTs, PyData.depthAll]⟩
  | n, d :: ds, h => by
    have h' : okD n d = true ∧ okDs n ds = true := by simpa [okDs] using h
    obtain ⟨h1, h2, h3⟩ := okD_py n d h'.1
    obtain ⟨h4, h5, h6⟩ := okDs_py n ds h'.2
    exact ⟨by simp [pys, pyTs, h1, h4], by simp [pyTs, PyData.canLayAll0, h2, h5], by simp only [pyTs, PyData.depthAll]; omega⟩
end
/-- == of data -/
def eqD (x y : D) : Bool := PyData.eqv (pyT x) (pyT y)
mutual
theorem eqD_iff : ∀ (n m : Nat) (x y : D), okD n x = true → okD m y = true → (PyData.eqv (pyT x) (pyT y) = true ↔ x = y)
  | n, m, .non, y, _, hy => by cases y <;> cases m <;> simp [pyT, PyData.eqv, okD] at hy ⊢
  | n, m, .int i, y, _, hy => by cases y <;> cases m <;> simp [pyT, PyData.eqv, okD] at hy ⊢
  | n, m, .str i, y, _, hy => by cases y <;> cases m <;> simp [pyT, PyData.eqv, okD] at hy ⊢
  | n + 1, m, .tup xs, y, hx, hy => by
    cases y with
    | tup ys =>
      cases m with
      | zero => simp [okD] at hy
      | succ m =>
        have h := eqDs_iff n m xs ys (by simpa [okD] using hx) (by simpa [okD] using hy)
        simpa [pyT, PyData.eqv] using h
    | _ => cases m <;> simp [pyT, PyData.eqv, okD] at hy ⊢
  | n + 1, m, .lst xs, y, hx, hy => by
    cases y with
    | lst ys =>
      cases m with
      | zero => simp [okD] at hy
      | succ m =>
        have h := eqDs_iff n m xs ys (by simpa [okD] using hx) (by simpa [okD] using hy)
        simpa [pyT, PyData.eqv] using h
    | _ => cases m <;> simp [pyT, PyData.eqv, okD] at hy ⊢
  | 0, m, .tup xs, y, h, _ => by simp [okD] at h
  | 0, m, .lst xs, y, h, _ => by simp [okD] at h
  | n, m, .bl b, y, h, _ => by cases n <;> simp [okD] at h
  | n, m, .dct b, y, h, _ => by cases n <;> simp [okD] at h
  | n, m, .ins _ b, y, h, _ => by cases n <;> simp [okD] at h
  | n, m, .adr b, y, h, _ => by cases n <;> simp [okD] at h
  | n, m, .ty b, y, h, _ => by cases n <;> simp [okD] at h
  | n, m, .dk, y, h, _ => by cases n <;> simp [okD] at h
  | n, m, .any, y, h, _ => by cases n <;> simp [okD] at h
theorem eqDs_iff : ∀ (n m : Nat) (xs ys : List D), okDs n xs = true → okDs m ys = true → (PyData.eqvAll (pyTs xs) (pyTs ys) = true ↔ xs = ys)
  | n, m, [], ys, _, _ => by cases ys <;> simp [pyTs, PyData.eqvAll]
  | n, m, x :: xs, [], _, _ => by simp [pyTs, PyData.eqvAll]
  | n, m, x :: xs, y :: ys, hx, hy => by
    have hx' : okD n x = true ∧ okDs n xs = true := by simpa [okDs] using hx
    have hy' : okD m y = true ∧ okDs m ys = true := by simpa [okDs] using hy
    have h1 := eqD_iff n m x y hx'.1 hy'.1
    have h2 := eqDs_iff n m xs ys hx'.2 hy'.2
    simp [pyTs, PyData.eqvAll, h1, h2]
end
theorem eqD_true {n m : Nat} {x y : D} (hx : okD n x = true) (hy : okD m y = true) : eqD x y = true ↔ x = y := eqD_iff n m x y hx hy
section
variable {G : Gx}
theorem shaped_ok {n : Nat} {x : D} (hn : n ≤ 60) (h : okD n x = true) : SeqAt.shaped (pyT x) = true := by
  obtain ⟨_, h2, h3⟩ := okD_py n x h
  unfold SeqAt.shaped
  rw [h2, decide_eq_true (show (pyT x).depth ≤ 64 by omega)] <;> rfl
theorem rd_eq (n : Nat) {x y : D} {Q : D → Prop} (hx : okD n x = true) (hy : okD n y = true) (h : Q (.bl (eqD x y))) (hn : n ≤ 50 := by decide) : RD G (rEqD G.K) x y Q :=
  rd_eqP (okD_py n x hx).1 (okD_py n y hy).1 (shaped_ok (by omega) hx) (shaped_ok (by omega) hy) h
theorem rd_ne (n : Nat) {x y : D} {Q : D → Prop} (hx : okD n x = true) (hy : okD n y = true) (h : Q (.bl (!eqD x y))) (hn : n ≤ 50 := by decide) : RD G (rNeD G.K) x y Q :=
  rd_neP (okD_py n x hx).1 (okD_py n y hy).1 (shaped_ok (by omega) hx) (shaped_ok (by omega) hy) h
theorem any_eqD (x : D) : ∀ xs : List D, ((pyTs xs).any fun z => PyData.eqv z (pyT x)) = xs.any fun z => eqD z x
  | [] => by simp [pyTs]
  | y :: ys => by
    rw [List.any_cons, ← any_eqD x ys]
    simp [pyTs, eqD]
theorem rd_in (n : Nat) {x : D} {xs : List D} {Q : D → Prop} (hx : okD n x = true) (hy : okDs n xs = true) (h : Q (.bl (xs.any fun z => eqD z x))) (hn : n ≤ 50 := by decide) : RD G (rInU G.K) x (.lst xs) Q :=
  rd_inL (okD_py n x hx).1 (okDs_py n xs hy).1 (shaped_ok (by omega) hx) (by
    have := shaped_ok (n := n + 1) (x := .lst xs) (by omega) (by simpa [okD] using hy)
    simpa [pyT] using this) (by rw [any_eqD]; exact h)
theorem rd_notIn (n : Nat) {x : D} {xs : List D} {Q : D → Prop} (hx : okD n x = true) (hy : okDs n xs = true) (h : Q (.bl (!xs.any fun z => eqD z x))) (hn : n ≤ 50 := by decide) : RD G (rNotInU G.K) x (.lst xs) Q :=
  rd_notInL (okD_py n x hx).1 (okDs_py n xs hy).1 (shaped_ok (by omega) hx) (by
    have := shaped_ok (n := n + 1) (x := .lst xs) (by omega) (by simpa [okD] using hy)
    simpa [pyT] using this) (by rw [any_eqD]; exact h)
end

theorem hin {k : Nat} {A : Around} (r : Room k A) : A.units + 65 < cLine := by have := r.un; omega
/-! ### keys and rows of keys -/
def kD : Key → D
  | .inl i => .int i
  | .inr x => .str x
def kOk : Key → Prop
  | .inl _ => True
  | .inr x => sOk x
def Tp (ks : List Key) : D := .tup (ks.map kD)
def tOk (ks : List Key) : Prop := ∀ k ∈ ks, kOk k
theorem kD_inj : ∀ {a b : Key}, kD a = kD b → a = b
  | .inl _, .inl _, h => by cases h; rfl
  | .inr _, .inr _, h => by cases h; rfl
  | .inl _, .inr _, h => by cases h
  | .inr _, .inl _, h => by cases h
theorem map_inj {α β : Type} {f : α → β} (hf : ∀ {a b : α}, f a = f b → a = b) : ∀ {xs ys : List α}, xs.map f = ys.map f → xs = ys
  | [], [], _ => rfl
  | [], _ :: _, h => by cases h
  | _ :: _, [], h => by cases h
  | x :: xs, y :: ys, h => by
    rw [List.map_cons, List.map_cons] at h
    injection h with h1 h2
    rw [hf h1, map_inj hf h2]
theorem Tp_inj {a b : List Key} (h : Tp a = Tp b) : a = b := by
  unfold Tp at h
  injection h with h
  exact map_inj kD_inj h
theorem ok_kD {n : Nat} : ∀ {k : Key}, kOk k → okD n (kD k) = true
  | .inl _, _ => by cases n <;> simp [kD, okD]
  | .inr x, h => by
    have h2 : PyData.strOk x = true := h
    cases n <;> simpa [kD, okD] using h2
theorem ok_str {n : Nat} {x : Str} (h : sOk x) : okD n (.str x) = true := by cases n <;> simpa [okD] using h
theorem ok_int {n : Nat} {i : Int} : okD n (.int i) = true := by cases n <;> simp [okD]
theorem ok_non {n : Nat} : okD n .non = true := by cases n <;> simp [okD]
theorem ok_tup {n : Nat} {xs : List D} (h : ∀ d ∈ xs, okD n d = true) : okD (n + 1) (.tup xs) = true := by
  have := okDs_all.mpr h
  simpa [okD] using this
theorem ok_lst {n : Nat} {xs : List D} (h : ∀ d ∈ xs, okD n d = true) : okD (n + 1) (.lst xs) = true := by
  have := okDs_all.mpr h
  simpa [okD] using this
theorem ok_map {α : Type} {n : Nat} {f : α → D} {xs : List α} (h : ∀ a ∈ xs, okD n (f a) = true) : ∀ d ∈ xs.map f, okD n d = true := fun d hd => by
  obtain ⟨a, ha, rfl⟩ := List.mem_map.mp hd
  exact h a ha
theorem ok_Tp {n : Nat} {ks : List Key} (h : tOk ks) : okD (n + 1) (Tp ks) = true := ok_tup (ok_map fun k hk => ok_kD (h k hk))
theorem eqD_kk {a b : Key} (ha : kOk a) (hb : kOk b) : eqD (kD a) (kD b) = decide (a = b) := by
  rw [Bool.eq_iff_iff, eqD_true (ok_kD (n := 0) ha) (ok_kD (n := 0) hb), decide_eq_true_iff]
  exact ⟨kD_inj, fun h => by rw [h]⟩
theorem eqD_TT {a b : List Key} (ha : tOk a) (hb : tOk b) : eqD (Tp a) (Tp b) = decide (a = b) := by
  rw [Bool.eq_iff_iff, eqD_true (ok_Tp (n := 0) ha) (ok_Tp (n := 0) hb), decide_eq_true_iff]
  exact ⟨Tp_inj, fun h => by rw [h]⟩
theorem eqD_ss {a b : Str} : eqD (.str a) (.str b) = decide (a = b) := by
  unfold eqD
  rw [Bool.eq_iff_iff]
  simp [pyT, PyData.eqv]
theorem eqD_ii {a b : Int} : eqD (.int a) (.int b) = decide (a = b) := by
  unfold eqD
  rw [Bool.eq_iff_iff]
  simp [pyT, PyData.eqv]
theorem rd_eqKK {G : Gx} {a b : Key} {Q : D → Prop} (ha : kOk a) (hb : kOk b) (h : Q (.bl (decide (a = b)))) : RD G (rEqD G.K) (kD a) (kD b) Q := rd_eq 0 (ok_kD ha) (ok_kD hb) (by rw [eqD_kk ha hb]; exact h)
theorem rd_eqKS {G : Gx} {a : Key} {b : Str} {Q : D → Prop} (ha : kOk a) (hb : sOk b) (h : Q (.bl (decide (a = .inr b)))) : RD G (rEqD G.K) (kD a) (.str b) Q := rd_eqKK (b := .inr b) ha hb h
theorem rd_eqTT {G : Gx} {a b : List Key} {Q : D → Prop} (ha : tOk a) (hb : tOk b) (h : Q (.bl (decide (a = b)))) : RD G (rEqD G.K) (Tp a) (Tp b) Q := rd_eq 1 (ok_Tp ha) (ok_Tp hb) (by rw [eqD_TT ha hb]; exact h)
theorem rd_neTT {G : Gx} {a b : List Key} {Q : D → Prop} (ha : tOk a) (hb : tOk b) (h : Q (.bl (!decide (a = b)))) : RD G (rNeD G.K) (Tp a) (Tp b) Q := rd_ne 1 (ok_Tp ha) (ok_Tp hb) (by rw [eqD_TT ha hb]; exact h)
theorem rd_eqSS {G : Gx} {a b : Str} {Q : D → Prop} (ha : sOk a) (hb : sOk b) (h : Q (.bl (decide (a = b)))) : RD G (rEqD G.K) (.str a) (.str b) Q := rd_eq 0 (ok_str ha) (ok_str hb) (by rw [eqD_ss]; exact h)
theorem rd_neSS {G : Gx} {a b : Str} {Q : D → Prop} (ha : sOk a) (hb : sOk b) (h : Q (.bl (!decide (a = b)))) : RD G (rNeD G.K) (.str a) (.str b) Q := rd_ne 0 (ok_str ha) (ok_str hb) (by rw [eqD_ss]; exact h)
theorem rd_eqII {G : Gx} {a b : Int} {Q : D → Prop} (h : Q (.bl (decide (a = b)))) : RD G (rEqD G.K) (.int a) (.int b) Q := rd_eq 0 ok_int ok_int (by rw [eqD_ii]; exact h)
theorem rd_neII {G : Gx} {a b : Int} {Q : D → Prop} (h : Q (.bl (!decide (a = b)))) : RD G (rNeD G.K) (.int a) (.int b) Q := rd_ne 0 ok_int ok_int (by rw [eqD_ii]; exact h)
/-! cuts and items of mapped lists -/
theorem cutD_map {α β : Type} (f : α → β) (xs : List α) (lo hi : Option Int) : cutD (xs.map f) lo hi = (cutD xs lo hi).map f := by
  unfold cutD
  rw [List.length_map, List.map_take, List.map_drop]
theorem cutD_drop {α : Type} (xs : List α) (n : Nat) : cutD xs (some (n : Int)) none = xs.drop n := by
  unfold cutD
  rw [HT.sIx_none, HT.sIx_nat]
  rcases Nat.le_total n xs.length with h | h
  · rw [Nat.min_eq_left h]
    exact List.take_of_length_le (by simp)
  · rw [Nat.min_eq_right h, List.drop_length, List.drop_eq_nil_of_le h]
    simp
theorem cutD_take {α : Type} (xs : List α) (n : Nat) : cutD xs none (some (n : Int)) = xs.take n := by
  unfold cutD
  rw [HT.sIx_none, HT.sIx_nat, List.drop_zero, Nat.sub_zero]
  rcases Nat.le_total n xs.length with h | h
  · rw [Nat.min_eq_left h]
  · rw [Nat.min_eq_right h, List.take_length, List.take_of_length_le h]
theorem cutD_last {α : Type} (xs : List α) : cutD xs none (some (-1)) = xs.dropLast := by
  unfold cutD
  rw [HT.sIx_none, List.drop_zero, Nat.sub_zero, List.dropLast_eq_take]
  show xs.take (if (-1 : Int) < 0 then ((-1 : Int) + (xs.length : Int)).toNat else min (-1 : Int).toNat xs.length) = _
  rw [if_pos (by decide)]
  congr 1
  omega
theorem atI_map {α β : Type} (f : α → β) (xs : List α) (i : Int) : atI (xs.map f) i = (atI xs i).map f := by
  unfold atI
  rw [List.length_map]
  cases e : ixN xs.length i with
  | none => rfl
  | some j => simp
theorem atI_m1 {α : Type} {xs : List α} (h : xs ≠ []) : atI xs (-1) = some (xs.getLast h) := by
  have e : xs = xs.dropLast ++ [xs.getLast h] := (List.dropLast_concat_getLast h).symm
  have e2 : atI (xs.dropLast ++ [xs.getLast h]) (-1) = some (xs.getLast h) := L2.atI_last _ _
  rw [← e] at e2
  exact e2
theorem atI_n {α : Type} {xs : List α} {n : Nat} {a : α} (h : xs[n]? = some a) : atI xs (n : Int) = some a := L2.atI_nat h
section
variable {S : Sc} {ρ : List Sl}
theorem we_neg {i : Int} {Q : D → Prop} (q : Q (.int (-i))) : WE S (tUn (rU fun i => .int (-i)) (tC (.int i))) ρ Q := fun σ H R Qv k => ⟨i, rfl, k _ H _ (Ex.refl H) (.int _) q⟩
theorem wt_yes {Q : Bool → Prop} (q : Q true) : WT S tYes ρ Q := fun σ H R Qv k => k true H (Ex.refl H) q
/-- a test whose answer decides a proposition -/
theorem ifd {c : Prop} [Decidable c] {A B : Prop} (h1 : c → A) (h2 : ¬ c → B) : if decide c = true then A else B := by
  by_cases h : c
  · rw [decide_eq_true h]
    exact h1 h
  · rw [decide_eq_false h]
    exact h2 h
theorem ift {A B : Prop} (h : A) : if true = true then A else B := by rwa [if_pos rfl]
theorem iff_ {A B : Prop} (h : B) : if false = true then A else B := by rwa [if_neg (by decide)]
theorem ifb {c : Bool} {A B : Prop} (h1 : c = true → A) (h2 : c = false → B) : if c = true then A else B := by
  cases c with
  | true => exact ift (h1 rfl)
  | false => exact iff_ (h2 rfl)
theorem ifnd {c : Prop} [Decidable c] {A B : Prop} (h1 : ¬ c → A) (h2 : c → B) : if (!decide c) = true then A else B := by
  by_cases h : c
  · rw [decide_eq_true h]
    exact h2 h
  · rw [decide_eq_false h]
    exact h1 h
end
end Sw
end

section
set_option Elab.async false
set_option autoImplicit false
set_option linter.all false
set_option maxRecDepth 100000
set_option maxHeartbeats 4000000
namespace Sw
open PySem PySem.Spec PyProof.Rows L2
def valD {κ : Type} [DecidableEq κ] (ds : List (κ × D)) (k : κ) : Option D := (ds.find? fun p => decide (p.1 = k)).map (·.2)
section
variable {G : Gx} {B : Addr → Prop} {H : Hp} {κ : Type} [DecidableEq κ]
theorem val_rel {k : κ} : ∀ {kvs : List (κ × V)} {ds : List (κ × D)}, kvs.map (·.1) = ds.map (·.1) → DqL G B H (kvs.map (·.2)) (ds.map (·.2)) → (valV kvs k = none ∧ valD ds k = none) ∨ ∃ v d, valV kvs k = some v ∧ valD ds k = some d ∧ Dq G B H v d
  | [], [], _, _ => .inl ⟨rfl, rfl⟩
  | [], _ :: _, h, _ => by cases h
  | _ :: _, [], h, _ => by cases h
  | (k1, v1) :: kvs, (k2, d2) :: ds, h, r => by
    rw [List.map_cons, List.map_cons] at h
    injection h with h1 h2
    have h1' : k1 = k2 := h1
    subst h1'
    cases r with
    | cons r1 r2 =>
      by_cases e : k1 = k
      · subst e
        exact .inr ⟨v1, d2, by simp [valV], by simp [valD], r1⟩
      · have ih := val_rel (k := k) h2 r2
        have e1 : valV ((k1, v1) :: kvs) k = valV kvs k := by simp [valV, e]
        have e2 : valD ((k1, d2) :: ds) k = valD ds k := by simp [valD, e]
        rw [e1, e2]
        exact ih
theorem dq_kD {v : V} {k : Key} (h : Dq G B H v (kD k)) : v = kV k := by
  cases k with
  | inl i => exact dq_int h
  | inr x => exact dq_str h
end
section
variable {S : Sc} {ρ : List Sl} {td ty te : TE}
theorem we_din {Q : D → Prop} (h : WE S ty ρ fun y => WE S td ρ fun x => ∃ k kvs, y = kD k ∧ x = .dct kvs ∧ Q (.bl (valD kvs k).isSome)) : WE S (tDIn ty td) ρ Q := fun σ H R Qv q =>
  h σ H R _ fun v H1 y e1 q1 h2 => h2 σ H1 (R.mono e1) _ fun u H2 x e2 q2 ⟨k, kvs, ey, ex, hq⟩ => by
    subst ey ex
    have ev := dq_kD q1
    subst ev
    obtain ⟨a, us, rfl, h3, n, hk, r⟩ := dq_dct q2
    refine ⟨a, _, rfl, DGet.k h3, ?_⟩
    have es : (valV us k).isSome = (valD kvs k).isSome := by
      rcases val_rel (k := k) hk r with ⟨e3, e4⟩ | ⟨w, d, e3, e4, _⟩
      · rw [e3, e4] <;> rfl
      · rw [e3, e4] <;> rfl
    rw [es]
    exact q _ H2 _ (e1.trans e2) (.bl _) hq
theorem we_dnotin {Q : D → Prop} (h : WE S ty ρ fun y => WE S td ρ fun x => ∃ k kvs, y = kD k ∧ x = .dct kvs ∧ Q (.bl (!(valD kvs k).isSome))) : WE S (tDNotIn ty td) ρ Q := fun σ H R Qv q =>
  h σ H R _ fun v H1 y e1 q1 h2 => h2 σ H1 (R.mono e1) _ fun u H2 x e2 q2 ⟨k, kvs, ey, ex, hq⟩ => by
    subst ey ex
    have ev := dq_kD q1
    subst ev
    obtain ⟨a, us, rfl, h3, n, hk, r⟩ := dq_dct q2
    refine ⟨a, _, rfl, DGet.k h3, ?_⟩
    have es : (valV us k).isSome = (valD kvs k).isSome := by
      rcases val_rel (k := k) hk r with ⟨e3, e4⟩ | ⟨w, d, e3, e4, _⟩
      · rw [e3, e4] <;> rfl
      · rw [e3, e4] <;> rfl
    rw [es]
    exact q _ H2 _ (e1.trans e2) (.bl _) hq
theorem we_dget {Q : D → Prop} (h : WE S td ρ fun x => WE S ty ρ fun y => ∃ k kvs d, y = kD k ∧ x = .dct kvs ∧ valD kvs k = some d ∧ Q d) : WE S (tDGet td ty) ρ Q := fun σ H R Qv q =>
  h σ H R _ fun v H1 x e1 q1 h2 => h2 σ H1 (R.mono e1) _ fun u H2 y e2 q2 ⟨k, kvs, d, ey, ex, hd, hq⟩ => by
    subst ey ex
    have ev := dq_kD q2
    subst ev
    obtain ⟨a, us, rfl, h3, n, hk, r⟩ := dq_dct (q1.mono e2)
    rcases val_rel (k := k) hk r with ⟨e3, e4⟩ | ⟨w, d', e3, e4, hw⟩
    · rw [e4] at hd
      cases hd
    · rw [e4] at hd
      cases hd
      refine ⟨a, w, rfl, ?_, q w H2 _ (e1.trans e2) hw hq⟩
      have g := DGet.k (k := k) h3
      rw [e3] at g
      exact g
/-- {k: v, ..}: each value data; the dict is data -/
def WP (S : Sc) : List (TE × TE) → List Sl → (List (Key × D) → Prop) → Prop
  | [], _, Q => Q []
  | (tk, tv) :: r, ρ, Q => WE S tk ρ fun x => ∃ k, x = kD k ∧ WE S tv ρ fun y => WP S r ρ fun ps => Q ((k, y) :: ps)
theorem wp_run : ∀ {trs : List (TE × TE)} {ρ : List Sl} {Q : List (Key × D) → Prop}, WP S trs ρ Q → ∀ σ H, S.R H σ ρ → ∀ Qv : List (V × V) → Hp → Prop,
    (∀ ps H' kvs, Ex S.G H H' → ps.map (·.1) = kvs.map (fun p : Key × D => kV p.1) → S.ql ρ H' (ps.map (·.2)) (kvs.map (·.2)) → Q kvs → Qv ps H') → tPairs trs σ H Qv
  | [], ρ, Q, h, σ, H, R, Qv, q => q [] H [] (Ex.refl H) rfl .nil h
  | (tk, tv) :: r, ρ, Q, h, σ, H, R, Qv, q => by
    refine h σ H R _ fun v H1 x e1 q1 ⟨k, ex, h2⟩ => ?_
    subst ex
    have ev := dq_kD q1
    subst ev
    refine h2 σ H1 (R.mono e1) _ fun u H2 y e2 q2 h3 => ?_
    refine wp_run h3 σ H2 (R.mono (e1.trans e2)) _ fun ps H3 kvs e3 hk hv hq => ?_
    exact q _ H3 ((k, y) :: kvs) (e1.trans (e2.trans e3)) (by rw [List.map_cons, List.map_cons, hk]) (.cons (q2.mono e3) hv) hq
def putD {κ : Type} [DecidableEq κ] (kvs : List (κ × D)) (k : κ) (v : D) : List (κ × D) :=
  if (kvs.any fun kv => decide (kv.1 = k)) = true then kvs.map (fun kv => if kv.1 = k then (kv.1, v) else kv) else kvs ++ [(k, v)]
def mergeD (kvs more : List (Key × D)) : List (Key × D) := more.foldl (fun acc kv => putD acc kv.1 kv.2) kvs
section
variable {G : Gx} {B : Addr → Prop} {H : Hp} {κ : Type} [DecidableEq κ]
theorem put_rel {k : κ} {v : V} {d : D} (hd : Dq G B H v d) {kvs : List (κ × V)} {ds : List (κ × D)} (hk : kvs.map (·.1) = ds.map (·.1)) (r : DqL G B H (kvs.map (·.2)) (ds.map (·.2))) :
    (putK kvs k v).map (·.1) = (putD ds k d).map (·.1) ∧ DqL G B H ((putK kvs k v).map (·.2)) ((putD ds k d).map (·.2)) := by
  have ha : (kvs.any fun kv => decide (kv.1 = k)) = ds.any fun kv => decide (kv.1 = k) := by
    have e1 : (kvs.any fun kv => decide (kv.1 = k)) = (kvs.map (·.1)).any fun x => decide (x = k) := by rw [List.any_map] <;> rfl
    have e2 : (ds.any fun kv => decide (kv.1 = k)) = (ds.map (·.1)).any fun x => decide (x = k) := by rw [List.any_map] <;> rfl
    rw [e1, e2, hk]
  unfold putK putD
  rw [ha]
  by_cases h : (ds.any fun kv => decide (kv.1 = k)) = true
  · rw [if_pos h, if_pos h]
    clear ha h
    induction kvs generalizing ds with
    | nil =>
      cases ds with
      | nil => exact ⟨rfl, .nil⟩
      | cons p ds => cases hk
    | cons p kvs ih =>
      cases ds with
      | nil => cases hk
      | cons p' ds =>
        rw [List.map_cons, List.map_cons] at hk
        injection hk with h1 h2
        cases r with
        | cons r1 r2 =>
          obtain ⟨i1, i2⟩ := ih h2 r2
          obtain ⟨k1, v1⟩ := p
          obtain ⟨k2, d2⟩ := p'
          have h1' : k1 = k2 := h1
          subst h1'
          by_cases e : k1 = k
          · simp only [List.map_cons, if_pos e]
            exact ⟨by rw [i1], .cons hd i2⟩
          · simp only [List.map_cons, if_neg e]
            exact ⟨by rw [i1], .cons r1 i2⟩
  · rw [if_neg h, if_neg h, List.map_append, List.map_append, List.map_append, List.map_append, hk]
    exact ⟨rfl, r.append (.cons hd .nil)⟩
end
theorem merge_rel {G : Gx} {B : Addr → Prop} {H : Hp} : ∀ {more : List (Key × V)} {mds : List (Key × D)} {kvs : List (Key × V)} {ds : List (Key × D)}, more.map (·.1) = mds.map (·.1) → DqL G B H (more.map (·.2)) (mds.map (·.2)) → kvs.map (·.1) = ds.map (·.1) → DqL G B H (kvs.map (·.2)) (ds.map (·.2)) →
    (mergeK kvs more).map (·.1) = (mergeD ds mds).map (·.1) ∧ DqL G B H ((mergeK kvs more).map (·.2)) ((mergeD ds mds).map (·.2))
  | [], [], _, _, _, _, h, r => ⟨h, r⟩
  | [], _ :: _, _, _, h, _, _, _ => by cases h
  | _ :: _, [], _, _, h, _, _, _ => by cases h
  | (k, v) :: more, (k', d) :: mds, kvs, ds, h, r, hk, hr => by
    rw [List.map_cons, List.map_cons] at h
    injection h with h1 h2
    have h1' : k = k' := h1
    subst h1'
    cases r with
    | cons r1 r2 =>
      obtain ⟨g1, g2⟩ := put_rel (k := k) r1 hk hr
      exact merge_rel (more := more) (mds := mds) (kvs := putK kvs k v) (ds := putD ds k d) h2 r2 g1 g2
end
end Sw
end

section
set_option Elab.async false
set_option autoImplicit false
set_option linter.all false
set_option maxRecDepth 100000
set_option maxHeartbeats 4000000
namespace Sw
open PySem PySem.Spec PyProof.Rows L2
section
variable {P : Program} {w : World} {A : Around} {E : Value → Shared → Prop} {s : Shared}
theorem wpAny_dictPut_pairs {d : Addr} {kvs : List (Key × Value)} {k : Key} {key v : Value} {Q : Unit → Shared → Prop} (hkey : (mixKind P w).is k key = true) (hm : s.heap.DictOf (mixKind P w) d kvs)
    (hQ : ∀ h', h'.DictOf (mixKind P w) d (stored kvs k v) → Heap.SameBut d s.heap h' → Q () { s with heap := h' })
    (hsz : kvs.length ≤ sizeLine) :
    wpAny (model P w) A (dictPut d ((mixKind P w).hash k) key v) Q E s := by
  obtain ⟨o, es, ep, ho, hc, hd, hk, hp, hn⟩ := hm
  have hes : es.size ≤ sizeLine := by
    have e1 := hp.length
    have e2 : es.toList.length = es.size := by simp
    omega
  unfold dictPut
  refine wpAny_bind (wpAny_dictFind_of hkey ho hd hk ?_)
  have hidx : (es.findIdx? fun e => (mixKind P w).is k e.key) = kvs.findIdx? fun kv => decide (kv.1 = k) := by
    rw [← hp.findIdx k]; obtain ⟨l⟩ := es; simp
  cases hi : es.findIdx? fun e => (mixKind P w).is k e.key with
  | some i =>
    refine wpAny_updateDict ho hd (hQ _ ⟨_, _, ep, Heap.get?_update_self _ ho (Obj.isFreed_of_dict (Obj.data_mapDict hd _)),
      hc.mapDict _, Obj.data_mapDict hd _, hk.modify _ _, ?_, ?_⟩ (Heap.SameBut.update ..))
    · rw [stored, if_pos (any_of_findIdx_some (hidx ▸ hi))]
      have hl : (es.toList.findIdx? fun e => (mixKind P w).is k e.key) = some i := by rw [← hi]; obtain ⟨l⟩ := es; simp
      have := hp.modify hn hl v
      obtain ⟨l⟩ := es
      simpa using this
    · rw [stored, if_pos (any_of_findIdx_some (hidx ▸ hi)), keys_map_store]; exact hn
  | none =>
    have hnot : k ∉ kvs.map (·.1) := not_mem_of_findIdx_none (hidx ▸ hi)
    have hany : ¬ (kvs.any fun kv => decide (kv.1 = k)) = true := by
      rw [List.any_eq_true]; rintro ⟨kv, hkv, he⟩
      exact hnot (List.mem_map.mpr ⟨kv, hkv, of_decide_eq_true he⟩)
    refine wpAny_updateDictKeys (hz := hes) ho hd (hQ _ ⟨_, _, ep + 1, Heap.get?_update_self _ ho (Obj.isFreed_of_dict (Obj.data_mapDictKeys hd _)),
      hc.mapDictKeys _, Obj.data_mapDictKeys hd _, hk.push hkey _, ?_, ?_⟩ (Heap.SameBut.update ..))
    · rw [stored, if_neg hany]
      have := hp.append hkey ((mixKind P w).hash k) v
      obtain ⟨l⟩ := es
      simpa using this
    · rw [stored, if_neg hany, List.map_append, List.nodup_append]
      refine ⟨hn, by simp, ?_⟩
      intro a ha b hb
      simp only [List.map_cons, List.map_nil, List.mem_singleton] at hb
      subst hb
      exact fun e => hnot (e ▸ ha)
theorem mix_noref {k : Key} {b : Addr} (h : (mixKind P w).is k (.ref b) = true) : False := by
  rw [mixKind_is] at h
  cases k with
  | inl i => exact absurd (show Value.isInt i (.ref b) = true from h) (by simp [Value.isInt])
  | inr i => exact absurd (show Value.isStrOf i (.ref b) = true from h) (by simp [Value.isStrOf])
theorem wpAny_mergeMapping {d o : Addr} {kvs more : List (Key × Value)} {Q : Unit → Shared → Prop} (hdo : d ≠ o) (hoS : (o == sysModules) = false)
    (hd : s.heap.DictOf (mixKind P w) d kvs) (ho : s.heap.DictOf (mixKind P w) o more)
    (hQ : ∀ h', h'.DictOf (mixKind P w) d (merged kvs more) → h'.DictOf (mixKind P w) o more → Heap.SameBut d s.heap h' → Q () { s with heap := h' })
    (hsz : kvs.length + more.length ≤ sizeLine) :
    wpAny (model P w) A (mergeMapping d (.ref o) false) Q E s := by
  obtain ⟨od, esd, epd, hod, hcd, hdd, hkd, hpd, hnd⟩ := id hd
  obtain ⟨oo, eso, epo, hoo, hco, hdo', hko, hpo, hno⟩ := id ho
  have hlen : more.length = eso.size := by rw [← hpo.length]; simp
  unfold mergeMapping
  refine wpAny_bind (wpAny_isInstance ho.typeIs isSubtype_dict_dict ?_)
  rw [if_pos rfl]
  refine wpAny_bind (wpAny_specialOf ho.typeIs F.slot_dict_iter.lookup ?_)
  rw [beq_self_eq_true]
  refine wpAny_bind (wpAny_pure ?_)
  dsimp only
  rw [if_neg (by rw [hoS]; exact Bool.false_ne_true)]
  have loop : wpAny (model P w) A (do
      let l ← dictEntries o
      let epoch ← dictEpoch o
      forIn (List.range l.size) PUnit.unit fun i (_ : PUnit) => (do
          let l' ← dictEntries o
          match l'[i]? with
            | some e => do
              holding [e.key, e.val] (dictPut d e.hash e.key e.val)
              let ep' ← dictEpoch o
              if (ep' != epoch) = true then do
                  (unsupported "dict.changed-during-merge" : Sem PUnit)
                  pure (ForInStep.yield PUnit.unit)
                else pure (ForInStep.yield PUnit.unit)
            | _ => do
              (unsupported "dict.changed-during-merge" : Sem PUnit)
              pure (ForInStep.yield PUnit.unit) : Sem (ForInStep PUnit))
      pure ()) Q E s := by
    refine wpAny_bind (wpAny_dictEntries hoo hdo' ?_)
    refine wpAny_bind (wpAny_dictEpoch hoo hdo' ?_)
    refine wpAny_bind ?_
    refine wpAny_forIn_list _
      (fun rest _ s' => ∃ h' i, s' = { s with heap := h' } ∧ rest = List.range' i (eso.size - i) ∧ i ≤ eso.size ∧ h'.DictOf (mixKind P w) d (merged kvs (more.take i)) ∧ h'.get? o = some oo ∧ Heap.SameBut d s.heap h')
      _ ?_ ?_ _ _ ⟨s.heap, 0, rfl, by simp [List.range_eq_range'], Nat.zero_le _, by simpa [merged] using hd, hoo, Heap.SameBut.refl _ _⟩
    · rintro x rest b s' ⟨h', i, rfl, hr, hi, hd', hoo', hs'⟩
      have hlt : i < eso.size := by
        rcases Nat.lt_or_ge i eso.size with h | h
        · exact h
        · rw [Nat.sub_eq_zero_of_le h] at hr; simp at hr
      obtain ⟨rfl, hrest⟩ : x = i ∧ rest = List.range' (i + 1) (eso.size - (i + 1)) := by
        have e : eso.size - i = (eso.size - (i + 1)) + 1 := by omega
        rw [e, List.range'_succ] at hr
        injection hr with h1 h2
        exact ⟨h1, h2⟩
      refine wpAny_bind (wpAny_dictEntries hoo' hdo' ?_)
      rw [Array.getElem?_eq_getElem hlt]
      obtain ⟨kv, hkv⟩ : ∃ kv, more[x]? = some kv := ⟨more[x]'(by rw [hlen]; exact hlt), List.getElem?_eq_getElem _⟩
      obtain ⟨k, v⟩ := kv
      obtain ⟨hkey, hval⟩ := hpo.get? (e := eso[x]) (by simp [hlt]) hkv
      obtain ⟨k', hkey', hhash⟩ := hko eso[x] (Array.getElem_mem hlt)
      obtain rfl : k' = k := (mixKind P w).inj _ _ _ hkey' hkey
      show wpAny _ _ (holding [eso[x].key, eso[x].val] (dictPut d eso[x].hash eso[x].key eso[x].val) >>= _) _ _ _
      rw [hhash, hval]
      have hmx : (merged kvs (more.take x)).length ≤ sizeLine := by
        have e1 := merged_length_le kvs (more.take x)
        have e2 : (more.take x).length ≤ more.length := by rw [List.length_take]; omega
        omega
      refine wpAny_bind (wpAny_holding (wpAny_dictPut_pairs (hsz := hmx) hkey hd' fun h'' hd'' hs'' => ?_))
      have hoo'' : h''.get? o = some oo := (hs''.2 o (Ne.symm hdo)).trans hoo'
      refine wpAny_bind (wpAny_dictEpoch hoo'' hdo' ?_)
      rw [if_neg (by simp)]
      exact wpAny_pure ⟨h'', x + 1, rfl, hrest, hlt, by rw [merged_take_succ kvs more x (k', v) hkv]; exact hd'', hoo'', hs'.trans hs''⟩
    · rintro b s' ⟨h', i, rfl, hr, hi, hd', hoo', hs'⟩
      have hin : i = eso.size := by
        rcases Nat.lt_or_ge i eso.size with h | h
        · have e : eso.size - i = (eso.size - (i + 1)) + 1 := by omega
          rw [e, List.range'_succ] at hr; exact nomatch hr
        · exact Nat.le_antisymm hi h
      refine wpAny_pure (hQ h' ?_ ⟨oo, eso, epo, hoo', hco, hdo', hko, hpo, hno⟩ hs')
      rw [hin, ← hlen, List.take_length] at hd'; exact hd'
  refine wpAny_bind (wpAny_dictEntries hod hdd ?_)
  split
  · refine wpAny_bind (wpAny_dictEntries hoo hdo' ?_)
    have hl : ∀ f : DictEntry → PUnit → Sem (ForInStep PUnit), (∀ e ∈ eso.toList, f e PUnit.unit = pure (.yield PUnit.unit)) → (forIn eso PUnit.unit f : Sem PUnit) = pure PUnit.unit := fun f hf => by
      rw [← Array.forIn_toList]
      exact forIn_yield_id _ fun e he c => by cases c; exact hf e he
    refine wpAny_bind (wpAny_of_eq (hl _ fun e he => ?_) loop)
    obtain ⟨k, hkey, _⟩ := hko e (Array.mem_toList_iff.mp he)
    generalize e.key = u at hkey
    cases u with
    | ref b => exact (mix_noref hkey).elim
    | _ => rfl
  · exact loop
/-- {**v1, k: v2} -/
theorem dictDisplay_star {v1 k v2 : Sem Value} : dictDisplay [(none, v1), (some k, v2)] = (do
    let d ← alloc { cls := .type "dict", data := .dict #[] }
    let m ← holding [.ref d] v1
    (((holding [.ref d, m] (mergeMapping d m false)).onRaise fun x => do let _ ← holding [.ref d, m, x] (runValue (.builtin "proto.let_go" {}))).tryCatch fun e => do
      if ← isInstance e (.type "AttributeError") then
        rule "dict.display.not-a-mapping"; raiseError "TypeError" s!"'{← typeNameOf m}' object is not a mapping"
      throw e).onRaise fun x => do let _ ← holding [.ref d, x] (runValue (.builtin "proto.let_go" {}))
    let sub ← holding [.ref d] (subDict [(k, v2)])
    (holding [.ref d, .ref sub] (mergeMapping d (.ref sub) false)).onRaise fun x => do let _ ← holding [.ref d, x] (runValue (.builtin "proto.let_go" {}))
    pure (.ref d)) := by
  unfold dictDisplay
  simp
end
/-- {**d, k: v} with keys ints and texts -/
def tMrg (td tk tv : TE) : TE := fun σ H Q => ∀ p, H p = none → td σ (upd H p (.dK [])) fun x H1 => ∃ b kvs, x = .ref b ∧ H1 b = some (.dK kvs) ∧ b ≠ p ∧ H1 p = some (.dK []) ∧ kvs.length ≤ 1000 ∧
  ∀ p2, upd H1 p (.dK kvs) p2 = none → tk σ (upd (upd H1 p (.dK kvs)) p2 (.dK [])) fun y H2 => tv σ H2 fun z H3 => ∃ k, y = kV k ∧ H3 p = some (.dK kvs) ∧ H3 p2 = some (.dK []) ∧ p ≠ p2 ∧
    Q (.ref p) (upd (upd H3 p2 (.dK [(k, z)])) p (.dK (putK kvs k z)))
theorem KV_keys : ∀ {ks : List (Key × V)} {vs : List (Key × Value)}, KV ks vs → True := fun _ => trivial
theorem pe_mrg {X : Cx} {pos : Pos} {e1 ek ev : Expr} {td tk tv : TE} (h1 : PE X e1 td) (hk : PE X ek tk) (hv : PE X ev tv) : PE X (.Dict [none, some ek] [e1, ev] pos) (tMrg td tk tv) := by
  refine ⟨fun pins s σ H Q I q => ?_⟩
  have es : eval (.Dict [none, some ek] [e1, ev] pos) X.env = (do
      standAt pos
      dictDisplay [(none, do let x ← eval e1 X.env; standAt pos; pure x), (some (eval ek X.env), do let x ← eval ev X.env; standAt pos; pure x)]) := rfl
  rw [es, dictDisplay_star]
  refine wpAny_bind (wpAny_standAt ?_)
  refine wpAny_bind (wpAny_alloc ?_)
  have hn := I.hok.fresh (Nat.le_refl s.heap.objs.size)
  have I1 := I.laid (a := s.heap.objs.size) (o := .dK []) (h' := s.heap.push { cls := .type "dict", data := .dict #[] }) (t' := s.toks) (fun _ _ q => Heap.get?_push_of_some _ q) (Nat.le_refl _) (dk_empty s.heap I.big)
  refine wpAny_bind (wpAny_holding (wpAny_bind (thn (h1.run pins _ σ _ _ I1 (q _ hn)) fun u s1 ⟨x, H1, I2, r1, b, kvs, ex, hb, nb, hp, hz, q2⟩ => wpAny_bind (wpAny_standAt (wpAny_pure ?_)))))
  subst ex
  obtain rfl : u = Value.ref b := r1
  obtain ⟨z1, hd1, vs1, rk1, dd1⟩ := dk_of I2.hok hb
  obtain ⟨z0, hd0, vs0, rk0, dd0⟩ := dk_of I2.hok hp
  cases rk0
  have lv : vs1.length = kvs.length := (Paired.length rk1).symm
  have hz1 : ([] : List (Key × Value)).length + vs1.length ≤ sizeLine := by
    have : kvs.length ≤ sizeLine := Nat.le_trans hz (by decide)
    rw [lv]
    simpa using this
  refine wpAny_bind (wpAny_onRaise (wpAny_tryCatch (wpAny_onRaise (wpAny_holding (wpAny_mergeMapping (hsz := hz1) (Ne.symm nb) hd1 dd0 dd1 fun h' dd' ddo hs => ?_)))))
  have en : merged [] vs1 = vs1 := by
    obtain ⟨_, _, _, _, _, _, _, _, hnd⟩ := dd1
    exact merged_nil_of_nodup _ hnd
  rw [en] at dd'
  have he : ∃ q, h'.get? s.heap.objs.size = some q := let ⟨q, _, _, hq, _⟩ := dd'; ⟨q, hq⟩
  have I3 := d_write (t' := s1.toks) I2 (by rw [hp]; exact True.intro) hs he (dk_new z1 hd0 rk1 dd')
  have hn2 := I3.hok.fresh (Nat.le_refl h'.objs.size)
  have I4 := I3.laid (a := h'.objs.size) (o := .dK []) (h' := h'.push { cls := .type "dict", data := .dict #[] }) (t' := s1.toks) (fun _ _ q => Heap.get?_push_of_some _ q) (Nat.le_refl _) (dk_empty h' I3.big)
  refine wpAny_bind (wpAny_holding (wpAny_subDict (knd := mixKind X.prog X.w) (show 1 ≤ 15 by decide) ?_))
  unfold evalPairs
  refine wpAny_bind (thn (hk.run pins _ σ _ _ I4 (q2 _ hn2)) fun uk s2 ⟨y, H2, I5, ry, q3⟩ => ?_)
  refine wpAny_bind (wpAny_holding (wpAny_bind (thn (hv.run pins _ σ _ _ I5 q3) fun uv s3 ⟨z, H3, I6, rz, k, ey, hp3, hp4, np, q4⟩ => wpAny_bind (wpAny_standAt (wpAny_pure ?_)))))
  subst ey
  refine wpAny_bind (wpAny_holding ?_)
  unfold evalPairs
  refine wpAny_pure (wpAny_pure ?_)
  obtain ⟨z2, hd2, vs2, rk2, dd2⟩ := dk_of I6.hok hp4
  cases rk2
  refine ⟨[(k, uv)], ⟨kV_is ry, rfl, True.intro⟩, dd2, fun h2 dd3 hs2 => ?_⟩
  have em : merged [] [(k, uv)] = [(k, uv)] := rfl
  rw [em] at dd3
  have he2 : ∃ q, h2.get? h'.objs.size = some q := let ⟨q, _, _, hq, _⟩ := dd3; ⟨q, hq⟩
  have rk3 : KV [(k, z)] [(k, uv)] := .cons ⟨rfl, rz⟩ .nil
  have I7 := d_write (t' := s3.toks + 1) I6 (by rw [hp4]; exact True.intro) hs2 he2 (dk_new (kvs := [(k, z)]) (show 1 ≤ sizeLine by decide) hd2 rk3 dd3)
  have hp7 : upd H3 h'.objs.size (.dK [(k, z)]) s.heap.objs.size = some (.dK kvs) := by rw [upd_ne np]; exact hp3
  obtain ⟨z7, hd7, vs7, rk7, dd7⟩ := dk_of I7.hok hp7
  obtain ⟨z8, hd8, vs8, rk8, dd8⟩ := dk_of I7.hok (show upd H3 h'.objs.size (.dK [(k, z)]) h'.objs.size = some (.dK [(k, z)]) from upd_same)
  have l7 : vs7.length = kvs.length := (Paired.length rk7).symm
  have l8 : vs8.length = 1 := (Paired.length rk8).symm
  have hz2 : vs7.length + vs8.length ≤ sizeLine := by
    have : 1000 + 1 ≤ sizeLine := by decide
    omega
  refine wpAny_bind (wpAny_onRaise (wpAny_holding (wpAny_mergeMapping (hsz := hz2) np hd8 dd7 dd8 fun h3 dd9 dd10 hs3 => wpAny_pure ?_)))
  have he3 : ∃ q, h3.get? s.heap.objs.size = some q := let ⟨q, _, _, hq, _⟩ := dd9; ⟨q, hq⟩
  have rk9 : KV (putK kvs k z) (merged vs7 vs8) := by
    have := rk8.merge rk7
    exact this
  have zl : (putK kvs k z).length ≤ sizeLine := by
    have := length_putK kvs k z
    have : 1000 + 1 ≤ sizeLine := by decide
    omega
  have I8 := d_write (t' := s3.toks + 1) I7 (by rw [hp7]; exact True.intro) hs3 he3 (dk_new zl hd7 rk9 dd9)
  exact ⟨.ref s.heap.objs.size, _, I8, rfl, q4⟩
/-- a hidden object is written -/
theorem Rho.writeB {G : Gx} {B : Addr → Prop} {H0 H : Hp} {σ : L2.St} {ρ : List Sl} (R : Rho G B H0 H σ ρ) {p : Addr} {o o' : HO} (hb : B p) (n0 : H0 p = none) (h : H p = some o) (w : Wr o) : Rho G B H0 (upd H p o') σ ρ := by
  have hh : hid B ρ p := .inl hb
  have x := ext_upd (Bh := hid B ρ) (o' := o') hh h w
  have ne : ∀ a, a ∈ owns ρ → a ≠ p := fun a q e => by
    subst e
    exact R.nb _ q hb
  refine ⟨G.tbw _ _ _ _ h w R.tb, ⟨fun a u ha n => ?_, fun a q => ?_, fun _ => G.tbw _ _ _ _ h w R.tb⟩, fun a q => ?_, R.nb, R.len, fun j s es => ?_, R.own, fun a q => ?_, R.dis⟩
  · by_cases e : a = p
    · subst e
      rw [n0] at ha
      cases ha
    · rw [upd_ne e]
      exact R.ex.k a u ha n
  · by_cases e : a = p
    · subst e
      rw [upd_same] at q
      cases q
    · rw [upd_ne e] at q
      exact R.ex.s a q
  · by_cases e : a = p
    · subst e
      rw [upd_same]
      exact fun z => nomatch z
    · rw [upd_ne e]
      exact R.bs a q
  · obtain ⟨u, h1, h2⟩ := R.at_ j s es
    refine ⟨u, h1, ?_⟩
    cases s with
    | no => trivial
    | d y =>
      obtain ⟨v, e1, e2⟩ := h2
      exact ⟨v, e1, e2.ext x⟩
    | own a cc =>
      obtain ⟨e1, e2⟩ := h2
      exact ⟨e1, e2.ext hh h w fun z => ne p (mem_owns es z) rfl⟩
  · rw [upd_ne (ne a q)]
    exact R.tr a q
section
variable {S : Sc} {ρ : List Sl} {td tk tv : TE}
theorem we_mrg {Q : D → Prop} (h : ∀ p, WE (S.in p) td ρ fun x => ∃ kvs, x = .dct kvs ∧ kvs.length ≤ 1000 ∧ ∀ p2, WE ((S.in p).in p2) tk ρ fun y => ∃ k, y = kD k ∧ WE ((S.in p).in p2) tv ρ fun d => Q (.dct (putD kvs k d))) : WE S (tMrg td tk tv) ρ Q := fun σ H R Qv q p hp => by
  have e0 : Ex S.G H (upd H p (.dK [])) := Ex.new hp
  have R1 := R.hide e0 hp (by rw [upd_same]; exact fun z => nomatch z)
  refine h p σ _ R1 _ fun v H1 x e1 q1 ⟨kvs, ex, hz, h2⟩ => ?_
  subst ex
  obtain ⟨b, us, rfl, hb, nb, hk, r⟩ := dq_dct q1
  have hp1 : H1 p = some (.dK []) := e1.at upd_same
  have nbp : b ≠ p := fun e => by
    subst e
    exact nb (.inl (.inr rfl))
  have lu : us.length = kvs.length := by
    have := congrArg List.length hk
    simpa using this
  refine ⟨b, us, rfl, hb, nbp, hp1, by omega, fun p2 hp2 => ?_⟩
  have n0 : S.H0 p = none := nf R.ex hp
  have R2 : Rho S.G (wth S.B p) S.H0 (upd H1 p (.dK us)) σ ρ := (R1.mono e1).writeB (.inr rfl) n0 hp1 trivial
  have np2 : p2 ≠ p := fun e => by
    subst e
    rw [upd_same] at hp2
    cases hp2
  have h1p2 : H1 p2 = none := by rwa [upd_ne np2] at hp2
  have e2 : Ex S.G (upd H1 p (.dK us)) (upd (upd H1 p (.dK us)) p2 (.dK [])) := Ex.new hp2
  have R3 := R2.hide e2 hp2 (by rw [upd_same]; exact fun z => nomatch z)
  refine h2 p2 σ _ R3 _ fun y H2 dy e3 q3 ⟨k, ey, h3⟩ => ?_
  subst ey
  have ev := dq_kD q3
  subst ev
  refine h3 σ _ (R3.mono e3) _ fun z H3 dz e4 q4 hq => ?_
  have e34 : Ex S.G (upd (upd H1 p (.dK us)) p2 (.dK [])) H3 := e3.trans e4
  have g1 : H3 p = some (.dK us) := e34.at (by rw [upd_ne (Ne.symm np2), upd_same])
  have g2 : H3 p2 = some (.dK []) := e34.at upd_same
  refine ⟨k, rfl, g1, g2, Ne.symm np2, ?_⟩
  -- the values
  have hB : hid (wth (wth S.B p) p2) ρ p := .inl (.inl (.inr rfl))
  have hB2 : hid (wth (wth S.B p) p2) ρ p2 := .inl (.inr rfl)
  have sub : ∀ a, hid S.B ρ a → hid (wth (wth S.B p) p2) ρ a := fun a t => by
    rcases t with t | t
    · exact .inl (.inl (.inl t))
    · exact .inr t
  have x1 := ext_upd (H := H3) (Bh := hid (wth (wth S.B p) p2) ρ) (o' := .dK [(k, z)]) hB2 g2 trivial
  have g3 : upd H3 p2 (.dK [(k, z)]) p = some (.dK us) := by rw [upd_ne (Ne.symm np2)]; exact g1
  have x2 := ext_upd (H := upd H3 p2 (.dK [(k, z)])) (Bh := hid (wth (wth S.B p) p2) ρ) (o' := .dK (putK us k z)) hB g3 trivial
  have qz := (q4.ext x1).ext x2
  have xw := ext_upd (H := H1) (Bh := hid (wth S.B p) ρ) (o' := .dK us) (.inl (.inr rfl)) hp1 trivial
  have r2 : DqL S.G (hid (wth (wth S.B p) p2) ρ) H3 (us.map (·.2)) (kvs.map (·.2)) := by
    have r1 := r.ext xw
    have r3 := (r1.lessT (B' := hid (wth (wth S.B p) p2) ρ) fun a ha t => by
      rcases t with (t | t) | t
      · exact .inl t
      · subst t
        exact absurd hp2 ha
      · exact .inr t)
    exact r3.mono (e2.trans e34)
  have rz := (r2.ext x1).ext x2
  obtain ⟨w1, w2⟩ := put_rel (k := k) qz hk rz
  refine q _ _ (.dct (putD kvs k dz)) ⟨fun a o ha n => ?_, fun a ha => ?_, fun t => S.G.tbw _ _ _ _ g3 trivial (S.G.tbw _ _ _ _ g2 trivial (e34.t (S.G.tbx _ _ (Evl.Ex.new hp2) (S.G.tbw _ _ _ _ hp1 trivial (e1.t (e0.t t))))))⟩ (.dct upd_same (R.alc.fresh hp) w1 (w2.less sub)) hq
  · have nap : a ≠ p := fun e => by
      subst e
      rw [hp] at ha
      cases ha
    have a1 : H1 a = some o := e1.k a o (e0.k a o ha n) n
    have nap2 : a ≠ p2 := fun e => by
      subst e
      rw [h1p2] at a1
      cases a1
    rw [upd_ne nap, upd_ne nap2]
    exact e34.k a o (by rw [upd_ne nap2, upd_ne nap]; exact a1) n
  · by_cases e5 : a = p
    · subst e5
      exact hp
    · rw [upd_ne e5] at ha
      by_cases e6 : a = p2
      · subst e6
        exact e0.s _ (e1.s _ h1p2)
      · rw [upd_ne e6] at ha
        have ha2 := e34.s _ ha
        rw [upd_ne e6, upd_ne e5] at ha2
        exact e0.s _ (e1.s _ ha2)
theorem wp_len : ∀ {trs : List (TE × TE)} {ρ : List Sl} {Q : List (Key × D) → Prop} {S : Sc}, WP S trs ρ Q → WP S trs ρ fun kvs => kvs.length = trs.length ∧ Q kvs
  | [], ρ, Q, S, h => ⟨rfl, h⟩
  | (tk, tv) :: r, ρ, Q, S, h => WE.mono h fun x ⟨k, e, h2⟩ => ⟨k, e, h2.mono fun y h3 => WPmono (wp_len h3) fun kvs ⟨l, q⟩ => ⟨by simp [l], q⟩⟩
where
  WPmono : ∀ {trs : List (TE × TE)} {ρ : List Sl} {Q Q' : List (Key × D) → Prop} {S : Sc}, WP S trs ρ Q → (∀ kvs, Q kvs → Q' kvs) → WP S trs ρ Q'
    | [], ρ, Q, Q', S, h, k => k _ h
    | (tk, tv) :: r, ρ, Q, Q', S, h, k => WE.mono h fun x ⟨kk, e, h2⟩ => ⟨kk, e, h2.mono fun y h3 => WPmono h3 fun kvs q => k _ q⟩
theorem pairs_back : ∀ {ps : List (V × V)} {kvs : List (Key × D)}, ps.map (·.1) = kvs.map (fun p : Key × D => kV p.1) → ∃ us : List (Key × V), ps = us.map (fun kv => (kV kv.1, kv.2)) ∧ us.map (·.1) = kvs.map (·.1) ∧ us.map (·.2) = ps.map (·.2)
  | [], [], _ => ⟨[], rfl, rfl, rfl⟩
  | [], _ :: _, h => by cases h
  | _ :: _, [], h => by cases h
  | (a, b) :: ps, (k, d) :: kvs, h => by
    rw [List.map_cons, List.map_cons] at h
    injection h with h1 h2
    have h1' : a = kV k := h1
    subst h1'
    obtain ⟨us, e1, e2, e3⟩ := pairs_back h2
    exact ⟨(k, b) :: us, by rw [List.map_cons, e1], by rw [List.map_cons, List.map_cons, e2], by rw [List.map_cons, List.map_cons, e3]⟩
theorem we_disp {trs : List (TE × TE)} {Q : D → Prop} (hl : trs.length ≤ 15) (h : ∀ p, WP (S.in p) trs ρ fun kvs => Q (.dct (mergeD [] kvs))) : WE S (tDisp trs) ρ Q := fun σ H R Qv q p hp => by
  have e0 : Ex S.G H (upd H p (.dK [])) := Ex.new hp
  have R1 := R.hide e0 hp (by rw [upd_same]; exact fun z => nomatch z)
  refine wp_run (wp_len (h p)) σ _ R1 _ fun ps H' kvs e hk hv ⟨hle, hq⟩ => ?_
  have hp' : H' p = some (.dK []) := e.at upd_same
  obtain ⟨us, e1, e2, e3⟩ := pairs_back hk
  have lu : us.length = kvs.length := by
    have := congrArg List.length e2
    simpa using this
  refine ⟨hp', us, e1, by omega, ?_⟩
  have x := ext_upd (H := H') (Bh := hid (wth S.B p) ρ) (o' := .dK (mergeK [] us)) (.inl (.inr rfl)) hp' trivial
  rw [← e3] at hv
  obtain ⟨w1, w2⟩ := merge_rel (more := us) (mds := kvs) (kvs := []) (ds := []) e2 (hv.ext x) rfl .nil
  have sub : ∀ a, hid S.B ρ a → hid (wth S.B p) ρ a := fun a t => by
    rcases t with t | t
    · exact .inl (.inl t)
    · exact .inr t
  exact q _ _ (.dct (mergeD [] kvs)) ((e0.trans e).wr hp hp' trivial) (.dct upd_same (R.alc.fresh hp) w1 (w2.less sub)) hq
/-- i, j = x, y -/
theorem ws_par {i j : Nat} {ta : TA} {E : DE} (h : WA S ta ρ fun xs => ∃ x y, xs = [x, y] ∧ E.nx ((ρ.set i (.d x)).set j (.d y))) : WS S (tPar i j ta) ρ E := fun σ H Dv R l =>
  h σ H R _ fun vs H' ds e q ⟨x, y, ed, z⟩ => by
    subst ed
    cases q with
    | cons q1 q2 =>
      cases q2 with
      | cons q2 q3 =>
        cases q3
        have s1 := hid_set_d (S := S) (ρ := ρ) i x
        have s2 := hid_set_d (S := S) (ρ := ρ.set i (.d x)) j y
        have R1 := (R.mono e).set i q1
        have R2 := R1.set j (q2.less s1)
        exact ⟨_, _, rfl, l.nx _ H' _ R2 (fun v d hd => (hd.mono e).less fun a t => s1 a (s2 a t)) z⟩
/-- i, j = a pair -/
theorem ws_asg2 {i j : Nat} {te : TE} {E : DE} (h : WE S te ρ fun d => ∃ x y, d = .tup [x, y] ∧ E.nx ((ρ.set i (.d x)).set j (.d y))) : WS S (tAsg te (gTup S.G.K 2 (gCons (gName i) (gCons (gName j) gNil)))) ρ E :=
  ws_asgG (js := [i] ++ ([j] ++ [])) (h.mono fun d ⟨x, y, e, q⟩ => by
    subst e
    exact wg_tup rfl (wgs_cons (wg_name (wgs_cons (wg_name (wgs_nil q))))))
theorem ws_asg3 {i j k : Nat} {te : TE} {E : DE} (h : WE S te ρ fun d => ∃ x y z, d = .tup [x, y, z] ∧ E.nx (((ρ.set i (.d x)).set j (.d y)).set k (.d z))) : WS S (tAsg te (gTup S.G.K 3 (gCons (gName i) (gCons (gName j) (gCons (gName k) gNil))))) ρ E :=
  ws_asgG (js := [i] ++ ([j] ++ ([k] ++ []))) (h.mono fun d ⟨x, y, z, e, q⟩ => by
    subst e
    exact wg_tup rfl (wgs_cons (wg_name (wgs_cons (wg_name (wgs_cons (wg_name (wgs_nil q))))))))
theorem ws_asg4 {i j k l : Nat} {te : TE} {E : DE} (h : WE S te ρ fun d => ∃ x y z w, d = .tup [x, y, z, w] ∧ E.nx ((((ρ.set i (.d x)).set j (.d y)).set k (.d z)).set l (.d w))) : WS S (tAsg te (gTup S.G.K 4 (gCons (gName i) (gCons (gName j) (gCons (gName k) (gCons (gName l) gNil)))))) ρ E :=
  ws_asgG (js := [i] ++ ([j] ++ ([k] ++ ([l] ++ [])))) (h.mono fun d ⟨x, y, z, w, e, q⟩ => by
    subst e
    exact wg_tup rfl (wgs_cons (wg_name (wgs_cons (wg_name (wgs_cons (wg_name (wgs_cons (wg_name (wgs_nil q))))))))))
end
end Sw
end

section
set_option Elab.async false
set_option autoImplicit false
set_option linter.all false
set_option maxRecDepth 100000
set_option maxHeartbeats 4000000
namespace Sw
open PySem PySem.Spec PyProof.Rows L2
theorem map_split {α β : Type} {f : α → β} : ∀ {zs : List α} {pre : List β} {x : β} {post : List β}, zs.map f = pre ++ x :: post → ∃ zp z zq, zs = zp ++ z :: zq ∧ pre = zp.map f ∧ x = f z ∧ post = zq.map f
  | [], pre, x, post, h => by
    cases pre <;> cases h
  | z :: zs, [], x, post, h => by
    rw [List.map_cons, List.nil_append] at h
    injection h with h1 h2
    exact ⟨[], z, zs, rfl, rfl, h1.symm, h2.symm⟩
  | z :: zs, y :: pre, x, post, h => by
    rw [List.map_cons, List.cons_append] at h
    injection h with h1 h2
    obtain ⟨zp, z', zq, e1, e2, e3, e4⟩ := map_split h2
    exact ⟨z :: zp, z', zq, by rw [e1]; rfl, by rw [List.map_cons, h1, e2], e3, e4⟩
section
variable {S : Sc} {ρ : List Sl} {te : TE} {tt : TT} {wi : TI} {g : TG} {t : TS} {E : DE}
theorem take_pre {α β : Type} {f : α → β} {zs zp zq : List α} {z : α} {pre : List β} (e : zs = zp ++ z :: zq) (e2 : pre = zp.map f) (x : β) : zs.take pre.length = zp ∧ zs.take (pre ++ [x]).length = zp ++ [z] := by
  subst e e2
  refine ⟨by simp, ?_⟩
  have : (zp ++ z :: zq) = (zp ++ [z]) ++ zq := by simp
  rw [this]
  exact List.take_left' (by simp)
/-- for one name -/
theorem ws_for1 {α : Type} {j : Nat} (f : α → D) (zs : List α) (Iv : List α → List Sl → Prop) (h : WI S wi ρ fun ds => ds = zs.map f ∧ Iv [] ρ ∧
    (∀ zp z zq ρ', zs = zp ++ z :: zq → Iv zp ρ' → WS S t (ρ'.set j (.d (f z))) { E with nx := Iv (zp ++ [z]), ct := Iv (zp ++ [z]), bk := E.nx }) ∧ ∀ ρ', Iv zs ρ' → E.nx ρ') : WS S (tFor wi (gName j) t) ρ E :=
  ws_for (js := [j]) fun σ H R Rr k => h σ H R Rr fun J H' vs es ds e q dw sz ⟨ed, h0, hs, hd⟩ => k J H' vs es ds e q dw sz (by
    subst ed
    refine ⟨fun pre ρ' => Iv (zs.take pre.length) ρ', by simpa using h0, fun pre x post ρ' e2 hI => ?_, fun ρ' hI => ?_⟩
    · obtain ⟨zp, z, zq, e4, e5, e6, e7⟩ := map_split e2
      obtain ⟨t1, t2⟩ := take_pre e4 e5 x
      dsimp only
      rw [t2]
      dsimp only at hI
      rw [t1] at hI
      subst e6
      exact wg_name (hs zp z zq ρ' e4 hI)
    · dsimp only at hI
      rw [List.length_map, List.take_length] at hI
      exact hd ρ' hI)
/-- for a pair of names -/
theorem ws_for2 {α : Type} {i j : Nat} (f g : α → D) (zs : List α) (Iv : List α → List Sl → Prop) (h : WI S wi ρ fun ds => ds = zs.map (fun z => D.tup [f z, g z]) ∧ Iv [] ρ ∧
    (∀ zp z zq ρ', zs = zp ++ z :: zq → Iv zp ρ' → WS S t ((ρ'.set i (.d (f z))).set j (.d (g z))) { E with nx := Iv (zp ++ [z]), ct := Iv (zp ++ [z]), bk := E.nx }) ∧ ∀ ρ', Iv zs ρ' → E.nx ρ') :
    WS S (tFor wi (gTup S.G.K 2 (gCons (gName i) (gCons (gName j) gNil))) t) ρ E :=
  ws_for (js := [i] ++ ([j] ++ [])) fun σ H R Rr k => h σ H R Rr fun J H' vs es ds e q dw sz ⟨ed, h0, hs, hd⟩ => k J H' vs es ds e q dw sz (by
    subst ed
    refine ⟨fun pre ρ' => Iv (zs.take pre.length) ρ', by simpa using h0, fun pre x post ρ' e2 hI => ?_, fun ρ' hI => ?_⟩
    · obtain ⟨zp, z, zq, e4, e5, e6, e7⟩ := map_split e2
      obtain ⟨t1, t2⟩ := take_pre e4 e5 x
      dsimp only
      rw [t2]
      dsimp only at hI
      rw [t1] at hI
      subst e6
      exact wg_tup rfl (wgs_cons (wg_name (wgs_cons (wg_name (wgs_nil (hs zp z zq ρ' e4 hI))))))
    · dsimp only at hI
      rw [List.length_map, List.take_length] at hI
      exact hd ρ' hI)
theorem owns_setno {j : Nat} {s : Sl} (h : ρ[j]? = some s) (hs : s.ads = []) : owns (ρ.set j .no) = owns ρ := owns_set_ads h (by rw [hs]; rfl)
theorem set_set_no {j : Nat} {s : Sl} : (ρ.set j .no).set j s = ρ.set j s := List.set_set ..
/-- [e for x in xs if c], what each gives told beforehand -/
theorem wn_lc1 {α : Type} {j : Nat} {Q : List D → Prop} (hj : ∃ s, ρ[j]? = some s ∧ s.ads = []) (h : WI S wi ρ fun ds => ∃ (zs : List α) (f : α → D) (o : α → Option D), ds = zs.map f ∧
    (∀ z ∈ zs, ∀ p, WT (S.in p) tt (ρ.set j (.d (f z))) fun b => if b = true then WE (S.in p) te (ρ.set j (.d (f z))) fun y => o z = some y else o z = none) ∧ Q (zs.filterMap o)) :
    WN S (tLc wi (gName j) tt te [j]) ρ Q := by
  obtain ⟨s, hs, ha⟩ := hj
  refine wn_lc (js := [j]) (fun _ h => h) (owns_setno hs ha) fun σ H R Rr k => h σ H R Rr fun J H' vs es ds e q dw sz ⟨zs, f, o, ed, hz, hq⟩ => k J H' vs es ds e q dw sz ?_
  subst ed
  refine ⟨fun pre acc => acc = (zs.take pre.length).filterMap o, by simp, fun p pre x post acc e2 hI => ?_, fun acc hI => ?_⟩
  · obtain ⟨zp, z, zq, e4, e5, e6, e7⟩ := map_split e2
    obtain ⟨t1, t2⟩ := take_pre e4 e5 x
    dsimp only
    rw [t2]
    dsimp only at hI
    rw [t1] at hI
    subst e6 hI
    have hm : z ∈ zs := by rw [e4]; simp
    refine wg_name ?_
    have es : (wipeR ρ [j]).set j (.d (f z)) = ρ.set j (.d (f z)) := set_set_no
    rw [es]
    refine ⟨owns_set_ads hs (by rw [ha]; rfl), (hz z hm p).mono fun b hb => ?_⟩
    cases b with
    | true => exact ift ((show WE (S.in p) te _ _ from by simpa using hb).mono fun y hy => by rw [List.filterMap_append, List.filterMap_cons_some hy] <;> rfl)
    | false =>
      have hn : o z = none := by simpa using hb
      exact iff_ (by rw [List.filterMap_append, List.filterMap_cons_none hn, List.filterMap_nil, List.append_nil])
  · dsimp only at hI
    rw [List.length_map, List.take_length] at hI
    rw [hI]
    exact hq
/-- [e for (x, y) in xs if c] -/
theorem wn_lc2 {α : Type} {i j : Nat} {Q : List D → Prop} (hi : ∃ s, ρ[i]? = some s ∧ s.ads = []) (hj : ∃ s, ρ[j]? = some s ∧ s.ads = []) (hij : i ≠ j) (h : WI S wi ρ fun ds => ∃ (zs : List α) (f g : α → D) (o : α → Option D), ds = zs.map (fun z => D.tup [f z, g z]) ∧
    (∀ z ∈ zs, ∀ p, WT (S.in p) tt ((ρ.set i (.d (f z))).set j (.d (g z))) fun b => if b = true then WE (S.in p) te ((ρ.set i (.d (f z))).set j (.d (g z))) fun y => o z = some y else o z = none) ∧ Q (zs.filterMap o)) :
    WN S (tLc wi (gTup S.G.K 2 (gCons (gName i) (gCons (gName j) gNil))) tt te [i, j]) ρ Q := by
  obtain ⟨s, hs, ha⟩ := hi
  obtain ⟨s', hs', ha'⟩ := hj
  have o1 : ∀ t : Sl, t.ads = [] → owns (ρ.set j t) = owns ρ := fun t ht => owns_set_ads hs' (by rw [ha', ht])
  have o2 : ∀ t u : Sl, t.ads = [] → u.ads = [] → owns ((ρ.set j t).set i u) = owns ρ := fun t u ht hu => by
    rw [owns_set_ads (s := s) (by rw [List.getElem?_set_ne (Ne.symm hij)]; exact hs) (by rw [ha, hu]), o1 t ht]
  refine wn_lc (js := [i] ++ ([j] ++ [])) (fun _ h => h) (o2 _ _ rfl rfl) fun σ H R Rr k => h σ H R Rr fun J H' vs es ds e q dw sz ⟨zs, f, g, o, ed, hz, hq⟩ => k J H' vs es ds e q dw sz ?_
  subst ed
  refine ⟨fun pre acc => acc = (zs.take pre.length).filterMap o, by simp, fun p pre x post acc e2 hI => ?_, fun acc hI => ?_⟩
  · obtain ⟨zp, z, zq, e4, e5, e6, e7⟩ := map_split e2
    obtain ⟨t1, t2⟩ := take_pre e4 e5 x
    dsimp only
    rw [t2]
    dsimp only at hI
    rw [t1] at hI
    subst e6 hI
    have hm : z ∈ zs := by rw [e4]; simp
    refine wg_tup rfl (wgs_cons (wg_name (wgs_cons (wg_name (wgs_nil ?_)))))
    have es : ((wipeR ρ [i, j]).set i (.d (f z))).set j (.d (g z)) = (ρ.set i (.d (f z))).set j (.d (g z)) := by
      show ((((ρ.set j .no).set i .no).set i (.d (f z))).set j (.d (g z))) = _
      rw [List.set_set, List.set_comm _ _ (Ne.symm hij), List.set_set]
    rw [es]
    refine ⟨by rw [List.set_comm _ _ hij]; exact o2 _ _ rfl rfl, (hz z hm p).mono fun b hb => ?_⟩
    cases b with
    | true => exact ift ((show WE (S.in p) te _ _ from by simpa using hb).mono fun y hy => by rw [List.filterMap_append, List.filterMap_cons_some hy] <;> rfl)
    | false =>
      have hn : o z = none := by simpa using hb
      exact iff_ (by rw [List.filterMap_append, List.filterMap_cons_none hn, List.filterMap_nil, List.append_nil])
  · dsimp only at hI
    rw [List.length_map, List.take_length] at hI
    rw [hI]
    exact hq
end
end Sw
end

section
set_option Elab.async false
set_option autoImplicit false
set_option linter.all false
set_option maxRecDepth 100000
set_option maxHeartbeats 4000000
namespace Sw
open PySem PySem.Spec PyProof.Rows L2
/-- small enough for every line -/
theorem le_line {n : Nat} (h : n ≤ 100000) : n ≤ sizeLine := Nat.le_trans h (by decide)
def hole : Key := .inr "T"
/-- a pattern with t in T's place -/
def putT (p t : List Key) : List Key := if p.getLast? = some hole then p.dropLast ++ t else p
def F_put : FD := fun ds Q => ∃ p t : List Key, ds = [Tp p, Tp t] ∧ p ≠ [] ∧ tOk p ∧ p.length + t.length ≤ 10000 ∧ Q (Tp (putT p t))
abbrev sp_put (G : Gx) : Sp := spD G 2 F_put
def isInl (k : Key) : Bool := match k with
  | .inl _ => true
  | .inr _ => false
def F_is_unknown : FD := fun ds Q => ∃ p : List Key, ds = [Tp p] ∧ ∃ h : p ≠ [], Q (.bl (isInl (p.getLast h)))
abbrev sp_is_unknown (G : Gx) : Sp := spD G 1 F_is_unknown
/-- bindings: a row of names for each of some unknowns -/
abbrev Bd : Type := List (Int × List Key)
def bD (b : Bd) : D := .dct (b.map fun p => (Sum.inl p.1, Tp p.2))
/-- what a term's unknown may be -/
def uOk (p : List Key) : Prop := ∀ i, tl p = some (.inl i) → i = 0 ∨ i = 1
structure Kn (P : Nat) (p : List Key) : Prop where
  tm : Tm p
  ok : tOk p
  u : uOk p
  len : p.length ≤ P
structure Bk (P : Nat) (b : Bd) : Prop where
  wf : Wf b
  rows : ∀ x ∈ b, Kn (b.length * P) x.2 ∧ (x.1 = 0 ∨ x.1 = 1)
theorem two_keys : ∀ {b : Bd}, Wf b → (∀ x ∈ b, x.1 = 0 ∨ x.1 = 1) → b.length ≤ 2
  | [], _, _ => by simp
  | [_], _, _ => by simp
  | [_, _], _, _ => by simp
  | (i, r) :: (j, q) :: (k, p) :: b, ⟨_, h1, _, _, _, h2, _⟩, h => by
    have a1 := h1 (j, q) (by simp)
    have a2 := h1 (k, p) (by simp)
    have a3 := h2 (k, p) (by simp)
    have b1 := h (i, r) (by simp)
    have b2 := h (j, q) (by simp)
    have b3 := h (k, p) (by simp)
    simp only at a1 a2 a3 b1 b2 b3
    omega
theorem one_key {b : Bd} (w : Wf b) (h : ∀ x ∈ b, x.1 = 0 ∨ x.1 = 1) {i : Int} (hi : i = 0 ∨ i = 1) (n : ∀ x ∈ b, x.1 ≠ i) : b.length ≤ 1 := by
  match b, w, h, n with
  | [], _, _, _ => simp
  | [_], _, _, _ => simp
  | (j, r) :: (k, q) :: b, ⟨_, h1, _⟩, h, n =>
    have a1 := h1 (k, q) (by simp)
    have b1 := h (j, r) (by simp)
    have b2 := h (k, q) (by simp)
    have c1 := n (j, r) (by simp)
    have c2 := n (k, q) (by simp)
    simp only at a1 b1 b2 c1 c2
    omega
theorem Bk.le2 {P : Nat} {b : Bd} (k : Bk P b) : b.length ≤ 2 := two_keys k.wf fun x hx => (k.rows x hx).2
def free (b : Bd) (r : List Key) : Prop := ∀ i, tl r = some (.inl i) → ∀ x ∈ b, x.1 ≠ i
def F_resolved : FD := fun ds Q => ∃ (P : Nat) (p : List Key) (b : Bd), ds = [Tp p, bD b] ∧ Kn P p ∧ Bk P b ∧ P ≤ 1000 ∧
  ∀ r, Kn (P + b.length * (b.length * P)) r → free b r → (∀ θ, Sol θ b → ap θ r = ap θ p) → Q (Tp r)
abbrev sp_resolved (G : Gx) : Sp := spD G 2 F_resolved
def F_differing : FD := fun ds Q => ∃ p q : List Key, ds = [Tp p, Tp q] ∧ p ≠ [] ∧ q ≠ [] ∧ tOk p ∧ tOk q ∧ p.length ≤ 10000 ∧ q.length ≤ 10000 ∧ ∀ m, Df p q m → Q (.tup [Tp (p.drop m), Tp (q.drop m)])
abbrev sp_differing (G : Gx) : Sp := spD G 2 F_differing
/-- rows of names, none empty -/
def Nz (θ : Int → List Str) : Prop := ∀ i, θ i ≠ []
def F_unified : FD := fun ds Q => ∃ (P : Nat) (p q : List Key) (b : Bd), ds = [Tp p, Tp q, bD b] ∧ Kn P p ∧ Kn P q ∧ Bk P b ∧ P ≤ 1000 ∧
  (∀ b', Bk P b' → (∀ θ, Sol θ b' ↔ Sol θ b ∧ ap θ p = ap θ q) → Q (bD b')) ∧ ((∀ θ, Nz θ → ¬ (Sol θ b ∧ ap θ p = ap θ q)) → Q .non)
abbrev sp_unified (G : Gx) : Sp := spD G 3 F_unified
def F_unified_all : FD := fun ds Q => ∃ (P : Nat) (ps qs : List (List Key)), ds = [.lst (ps.map Tp), .lst (qs.map Tp), bD []] ∧ ps.length = qs.length ∧ (∀ p ∈ ps, Kn P p) ∧ (∀ p ∈ qs, Kn P p) ∧ P ≤ 1000 ∧
  (∀ b', Bk P b' → (∀ θ, Sol θ b' ↔ ps.map (ap θ) = qs.map (ap θ)) → Q (bD b')) ∧ ((∀ θ, Nz θ → ps.map (ap θ) ≠ qs.map (ap θ)) → Q .non)
abbrev sp_unified_all (G : Gx) : Sp := spD G 3 F_unified_all
end Sw
end

section
set_option Elab.async false
set_option autoImplicit false
set_option linter.all false
set_option maxRecDepth 100000
set_option maxHeartbeats 4000000
namespace Sw
open PySem PySem.Spec PyProof.Rows L2
def N_put : List Str := ["pattern", "tail"]
theorem nd_put : N_put.Nodup := by decide +kernel
def t_put (G : Gx) : TS :=
    (tRet (tIf (tTest (tOp (rEqD G.K) (tOp (rIx G.K) (tVar 0) (tUn (rU fun i => .int (-i)) (tC (.int 1)))) (tC (.str "T")))) (tOp (rAddU G.K) (tSl (rSlU G.K) (tVar 0) tNoPart (tPart (tUn (rU fun i => .int (-i)) (tC (.int 1))))) (tVar 1)) (tVar 0)))

def N_is_unknown : List Str := ["kind"]
theorem nd_is_unknown : N_is_unknown.Nodup := by decide +kernel
def t_is_unknown (G : Gx) : TS :=
    (tRet (tCB (rIsi G.K) (tCons (tOp (rIx G.K) (tVar 0) (tUn (rU fun i => .int (-i)) (tC (.int 1)))) (tCons (tC (.ty "int")) tNil))))

def N_resolved : List Str := ["kind", "bound", "found"]
theorem nd_resolved : N_resolved.Nodup := by decide +kernel
def t_resolved (G : Gx) : TS :=
    (tSeq (tAsg (tVar 0) (gName 2))
    (tSeq (tWhile (tAnd (tB (tCall (sp_is_unknown G) [] E0 (tCons (tVar 2) tNil))) (tB (tDIn (tOp (rIx G.K) (tVar 2) (tUn (rU fun i => .int (-i)) (tC (.int 1)))) (tVar 1)))) (tAsg (tOp (rAddU G.K) (tSl (rSlU G.K) (tVar 2) tNoPart (tPart (tUn (rU fun i => .int (-i)) (tC (.int 1))))) (tDGet (tVar 1) (tOp (rIx G.K) (tVar 2) (tUn (rU fun i => .int (-i)) (tC (.int 1)))))) (gName 2)))
    (tRet (tVar 2))))

def N_differing : List Str := ["one", "other", "shorter", "many"]
theorem nd_differing : N_differing.Nodup := by decide +kernel
def t_differing (G : Gx) : TS :=
    (tSeq (tAsg (tCB (rMinU) (tCons (tCB (rLenU G.K) (tCons (tVar 0) tNil)) (tCons (tCB (rLenU G.K) (tCons (tVar 1) tNil)) tNil))) (gName 2))
    (tSeq (tAsg (tC (.int 0)) (gName 3))
    (tSeq (tWhile (tAnd (tTest (tOp (rLtU G.K) (tVar 3) (tOp rSubU (tVar 2) (tC (.int 1))))) (tTest (tOp (rEqD G.K) (tOp (rIx G.K) (tVar 0) (tVar 3)) (tOp (rIx G.K) (tVar 1) (tVar 3))))) (tAsg (tOp (rAddU G.K) (tVar 3) (tC (.int 1))) (gName 3)))
    (tRet (tTup (tCons (tSl (rSlU G.K) (tVar 0) (tPart (tVar 3)) tNoPart) (tCons (tSl (rSlU G.K) (tVar 1) (tPart (tVar 3)) tNoPart) tNil)))))))

def N_unified : List Str := ["one", "other", "bound", "left", "right"]
theorem nd_unified : N_unified.Nodup := by decide +kernel
def t_unified (G : Gx) : TS :=
    (tSeq (tAsg (tCall (sp_differing G) [] E0 (tCons (tCall (sp_resolved G) [] E0 (tCons (tVar 0) (tCons (tVar 2) tNil))) (tCons (tCall (sp_resolved G) [] E0 (tCons (tVar 1) (tCons (tVar 2) tNil))) tNil))) (gTup G.K 2 (gCons (gName 3) (gCons (gName 4) gNil))))
    (tSeq (tIfS (tTest (tOp (rEqD G.K) (tVar 3) (tVar 4))) (tRet (tVar 2)) tNext)
    (tSeq (tIfS (tOr (tNot (tB (tCall (sp_is_unknown G) [] E0 (tCons (tVar 3) tNil)))) (tTest (tOp rGtU (tCB (rLenU G.K) (tCons (tVar 3) tNil)) (tC (.int 1))))) (tPar 3 4 (tCons (tVar 4) (tCons (tVar 3) tNil))) tNext)
    (tSeq (tIfS (tOr (tNot (tB (tCall (sp_is_unknown G) [] E0 (tCons (tVar 3) tNil)))) (tOr (tTest (tOp rGtU (tCB (rLenU G.K) (tCons (tVar 3) tNil)) (tC (.int 1)))) (tTest (tOp (rEqD G.K) (tOp (rIx G.K) (tVar 4) (tUn (rU fun i => .int (-i)) (tC (.int 1)))) (tOp (rIx G.K) (tVar 3) (tUn (rU fun i => .int (-i)) (tC (.int 1)))))))) (tRet (tC .non)) tNext)
    (tRet (tMrg (tVar 2) (tOp (rIx G.K) (tVar 3) (tC (.int 0))) (tVar 4)))))))

def N_unified_all : List Str := ["ones", "others", "bound", "found", "one", "other"]
theorem nd_unified_all : N_unified_all.Nodup := by decide +kernel
def t_unified_all (G : Gx) : TS :=
    (tSeq (tAsg (tVar 2) (gName 3))
    (tSeq (tFor (iZipK G.K (tCons (tVar 0) (tCons (tVar 1) tNil))) (gTup G.K 2 (gCons (gName 4) (gCons (gName 5) gNil))) (tIfS (tTest (tOp rNotN (tVar 3) (tC .non))) (tAsg (tCall (sp_unified G) [] E0 (tCons (tVar 4) (tCons (tVar 5) (tCons (tVar 3) tNil)))) (gName 3)) tNext))
    (tRet (tVar 3))))
end Sw
end

section
set_option Elab.async false
set_option autoImplicit false
set_option linter.all false
set_option maxRecDepth 100000
set_option maxHeartbeats 4000000
namespace Sw
open PySem PySem.Spec PyProof.Rows L2
section
variable {S : Sc} {ρ : List Sl} {ta tb tc te : TE} {r r' : R2} {t : TA}
theorem we_chain {Q : D → Prop} (h : WE S ta ρ fun x => WE S tb ρ fun y => RD S.G r x y fun b => ∃ c, b = .bl c ∧ if c = true then WE S tc ρ fun z => RD S.G r' y z Q else Q (.bl false)) : WE S (tChain r r' ta tb tc) ρ Q := fun σ H R Qv k =>
  h σ H R _ fun v H1 x e1 q1 h2 => h2 σ H1 (R.mono e1) _ fun u H2 y e2 q2 h3 =>
    h3 _ H2 v u (R.alc.mono (e1.trans e2)) (q1.mono e2) q2 _ fun b H3 d e3 q3 ⟨c, ed, h4⟩ => by
      subst ed
      refine ⟨c, dq_bl q3, ?_⟩
      have e13 : Ex S.G H H3 := (e1.trans e2).trans e3
      cases c with
      | true =>
        refine (show WE S tc ρ fun z => RD S.G r' y z Q from by simpa using h4) σ H3 (R.mono e13) _ fun w H4 z e4 q4 h5 => ?_
        exact h5 _ H4 u w (R.alc.mono (e13.trans e4)) (q2.mono (e3.trans e4)) q4 Qv fun o H5 d e5 q5 hq => k o H5 d ((e13.trans e4).trans e5) q5 hq
      | false => exact k _ H3 _ e13 (.bl false) (by simpa using h4)
theorem wa_star {Q : List D → Prop} (h : WE S te ρ fun x => ∃ xs, itemsD x = some xs ∧ WA S t ρ fun ys => Q (xs ++ ys)) : WA S (StX.tStar S.G.K te t) ρ Q := fun σ H R Qv k =>
  h σ H R _ fun v H1 x e1 q1 ⟨xs, hx, h2⟩ => by
    cases x with
    | tup ds =>
      cases hx
      obtain ⟨a, us, rfl, h3, r3⟩ := dq_tup q1
      exact ⟨a, us, rfl, .inl h3, h2 σ H1 (R.mono e1) _ fun ws H2 ys e2 q2 hq => k _ H2 _ (e1.trans e2) ((r3.mono e2).append q2) hq⟩
    | lst ds =>
      cases hx
      obtain ⟨a, us, rfl, h3, n, r3⟩ := dq_lst q1
      exact ⟨a, us, rfl, .inr (SqL.of h3), h2 σ H1 (R.mono e1) _ fun ws H2 ys e2 q2 hq => k _ H2 _ (e1.trans e2) ((r3.mono e2).append q2) hq⟩
    | _ => cases hx
theorem we_dnew {Q : D → Prop} (q : Q (.dct [])) : WE S tDNewK ρ Q := fun σ H R Qv k p hp =>
  k _ _ (.dct []) (Ex.new hp) (.dct upd_same (R.alc.fresh hp) rfl .nil) q
/-- a tuple of texts of the module's own -/
theorem we_words {a : Addr} {xs : List Str} {Q : D → Prop} (h : ∀ H, SqT S.G.K H a (xs.map V.str)) (q : Q (.tup (xs.map D.str))) : WE S (tC (.ref a)) ρ Q := we_ktup h (fun _ _ => dql_of_strs) q
end
end Sw
end

section
set_option Elab.async false
set_option autoImplicit false
set_option linter.all false
set_option maxRecDepth 100000
set_option maxHeartbeats 4000000
namespace Sw
open PySem PySem.Spec PyProof.Rows L2

def N__law_draw : List Str := ["deck", "many", "figure", "cell"]
theorem nd__law_draw : N__law_draw.Nodup := by decide +kernel
def t__law_draw (G : Gx) : TS :=
    (tSeq (sDPut (tVar 0) (tC (.str "draws")) (tOp (rAddU G.K) (tDGet (tVar 0) (tC (.str "draws"))) (tC (.int 1))))
    (tSeq (tAsg (tOp (rAddU G.K) (tDGet (tVar 0) (tC (.str "mixed"))) (tOp rMulU (tC (.int 61473)) (tDGet (tVar 0) (tC (.str "draws"))))) (gName 2))
    (tSeq (tIfS (tTest (tOp (rNeD G.K) (tDGet (tVar 0) (tC (.str "left"))) (tLst tNil))) (tSeq (tAsg (tBM0 G.K "list" rPop (tDGet (tVar 0) (tC (.str "left")))) (gName 3))
    (tSeq (tIfS (tTest (tOp rGeU (tVar 3) (tOp rPowU (tC (.int 10)) (tC (.int 18))))) (tSeq (tDrop (tBM G.K "list" rAppend (tDGet (tVar 0) (tC (.str "left"))) (tCons (tOp rDivU (tVar 3) (tCB (rMaxU) (tCons (tC (.int 2)) (tCons (tVar 1) tNil)))) tNil)))
    (tRet (tOp rModU (tCB (rIntU) (tCons (tVar 3) tNil)) (tVar 1)))) tNext)
    (tAsg (tOp (rAddU G.K) (tVar 2) (tOp rModU (tCB (rIntU) (tCons (tVar 3) tNil)) (tC (.int 2147483629)))) (gName 2)))) tNext)
    (tSeq (tAsg (tOp rModU (tCB (rIntU) (tCons (tOp (rAddU G.K) (tOp rMulU (tVar 2) (tC (.int 39373))) (tC (.int 31))) tNil)) (tC (.int 2147483647))) (gName 2))
    (tSeq (tAsg (tOp rModU (tCB (rIntU) (tCons (tOp (rAddU G.K) (tOp (rAddU G.K) (tOp rMulU (tVar 2) (tVar 2)) (tOp rMulU (tC (.int 52713)) (tDGet (tVar 0) (tC (.str "draws"))))) (tC (.int 31))) tNil)) (tC (.int 2147483587))) (gName 2))
    (tSeq (tAsg (tOp rModU (tCB (rIntU) (tCons (tOp rMulU (tVar 2) (tC (.int 40692))) tNil)) (tC (.int 2147483563))) (gName 2))
    (tRet (tOp rModU (tCB (rIntU) (tCons (tOp rDivU (tVar 2) (tC (.int 64))) tNil)) (tVar 1)))))))))

def N__law_deck : List Str := ["script", "mixed", "cell"]
theorem nd__law_deck : N__law_deck.Nodup := by decide +kernel
def t__law_deck (G : Gx) : TS :=
    (tSeq (tAsg (tC (.int 16385095)) (gName 1))
    (tSeq (tFor (iSeq G.K (tSl (rSlU G.K) (tVar 0) tNoPart (tPart (tC (.int 63))))) (gName 2) (tAsg (tOp rModU (tCB (rIntU) (tCons (tOp (rAddU G.K) (tOp (rAddU G.K) (tOp rMulU (tVar 1) (tC (.int 48271))) (tOp rModU (tCB (rIntU) (tCons (tVar 2) tNil)) (tC (.int 2147483629)))) (tC (.int 31))) tNil)) (tC (.int 2147483587))) (gName 1)))
    (tRet (tDisp (((tC (.str "left")), (tRevL G.K (tLc (iSeq G.K (tSl (rSlU G.K) (tVar 0) tNoPart (tPart (tC (.int 63))))) (gName 2) tYes (tCB (rIntU) (tCons (tVar 2) tNil)) [2]))) :: (((tC (.str "mixed")), (tVar 1)) :: (((tC (.str "draws")), (tC (.int 0))) :: [])))))))
end Sw
end

section
set_option Elab.async false
set_option autoImplicit false
set_option linter.all false
set_option maxRecDepth 100000
set_option maxHeartbeats 4000000
namespace Sw
open PySem PySem.Spec PyProof.Rows L2
theorem dk_left {b : Addr} {m d : Int} : valV (dkv b m d) (.inr "left") = some (.ref b) := by rfl
theorem dk_mixed {b : Addr} {m d : Int} : valV (dkv b m d) (.inr "mixed") = some (.int m) := by rfl
theorem dk_draws {b : Addr} {m d : Int} : valV (dkv b m d) (.inr "draws") = some (.int d) := by rfl
theorem dk_put {b : Addr} {m d e : Int} : putK (dkv b m d) (.inr "draws") (.int e) = dkv b m e := by rfl
section
variable {G : Gx} {H H0 : Hp} {σ : L2.St} {a b : Addr} {m d : Int} {Q : VK}
theorem g_left (h0 : σ[0]? = some (some (.ref a))) (ha : H a = some (.dK (dkv b m d))) (q : Q (.ref b) H) : tDGet (tVar 0) (tC (.str "left")) σ H Q := ⟨.ref a, h0, a, .ref b, rfl, by have := DGet.k (k := .inr "left") ha; rw [dk_left] at this; exact this, q⟩
theorem g_mixed (h0 : σ[0]? = some (some (.ref a))) (ha : H a = some (.dK (dkv b m d))) (q : Q (.int m) H) : tDGet (tVar 0) (tC (.str "mixed")) σ H Q := ⟨.ref a, h0, a, .int m, rfl, by have := DGet.k (k := .inr "mixed") ha; rw [dk_mixed] at this; exact this, q⟩
theorem g_draws (h0 : σ[0]? = some (some (.ref a))) (ha : H a = some (.dK (dkv b m d))) (q : Q (.int d) H) : tDGet (tVar 0) (tC (.str "draws")) σ H Q := ⟨.ref a, h0, a, .int d, rfl, by have := DGet.k (k := .inr "draws") ha; rw [dk_draws] at this; exact this, q⟩
theorem st_asg {te : TE} {u : TS} {D : Ends} {i : Nat} (h : te σ H fun v H1 => u D (σ.set i (some v)) H1) : (tSeq (tAsg te (gName i)) u) D σ H := h
theorem v_1 {i : Int} (h2 : σ[2]? = some (some (.int i))) (k : ∀ j : Int, 0 ≤ j → j < 2147483647 → Q (.int j) H) : tOp rModU (tCB (rIntU) (tCons (tOp (rAddU G.K) (tOp rMulU (tVar 2) (tC (.int 39373))) (tC (.int 31))) tNil)) (tC (.int 2147483647)) σ H Q :=
  ⟨.int i, h2, .inl ⟨i, 39373, rfl, rfl, .inr (by omega), .inl ⟨_, 31, rfl, rfl, .inl ⟨_, rfl, ⟨_, 2147483647, rfl, rfl, by omega, k _ (Int.emod_nonneg _ (by omega)) (Int.emod_lt_of_pos _ (by omega))⟩⟩⟩⟩⟩
theorem v_2 {i : Int} (h0 : σ[0]? = some (some (.ref a))) (ha : H a = some (.dK (dkv b m d))) (h2 : σ[2]? = some (some (.int i))) (i0 : 0 ≤ i) (i1 : i < 2147483647) (k : ∀ j : Int, 0 ≤ j → j < 2147483587 → Q (.int j) H) :
    tOp rModU (tCB (rIntU) (tCons (tOp (rAddU G.K) (tOp (rAddU G.K) (tOp rMulU (tVar 2) (tVar 2)) (tOp rMulU (tC (.int 52713)) (tDGet (tVar 0) (tC (.str "draws"))))) (tC (.int 31))) tNil)) (tC (.int 2147483587)) σ H Q := by
  refine ⟨.int i, h2, .int i, h2, ?_⟩
  refine .inl ⟨i, i, rfl, rfl, .inl (by omega), ?_⟩
  refine g_draws h0 ha ?_
  exact .inl ⟨52713, d, rfl, rfl, .inl (by omega), .inl ⟨_, _, rfl, rfl, .inl ⟨_, 31, rfl, rfl, .inl ⟨_, rfl, ⟨_, 2147483587, rfl, rfl, by omega, k _ (Int.emod_nonneg _ (by omega)) (Int.emod_lt_of_pos _ (by omega))⟩⟩⟩⟩⟩
theorem v_3 {i : Int} (h2 : σ[2]? = some (some (.int i))) (k : ∀ j : Int, 0 ≤ j → Q (.int j) H) : tOp rModU (tCB (rIntU) (tCons (tOp rMulU (tVar 2) (tC (.int 40692))) tNil)) (tC (.int 2147483563)) σ H Q :=
  ⟨.int i, h2, .inl ⟨i, 40692, rfl, rfl, .inr (by omega), .inl ⟨_, rfl, ⟨_, 2147483563, rfl, rfl, by omega, k _ (Int.emod_nonneg _ (by omega))⟩⟩⟩⟩
theorem v_4 {i many : Int} (h2 : σ[2]? = some (some (.int i))) (h1 : σ[1]? = some (some (.int many))) (m1 : 0 < many) (k : ∀ j : Int, 0 ≤ j → j < many → Q (.int j) H) : tOp rModU (tCB (rIntU) (tCons (tOp rDivU (tVar 2) (tC (.int 64))) tNil)) (tVar 1) σ H Q :=
  ⟨.int i, h2, ⟨i, 64, rfl, rfl, ⟨by omega, by omega⟩, .inl ⟨_, rfl, .int many, h1, ⟨_, many, rfl, rfl, m1, k _ (Int.emod_nonneg _ (by omega)) (Int.emod_lt_of_pos _ m1)⟩⟩⟩⟩
/-- the end of a draw -/
theorem draw_tail {D : Ends} {many : Int} {f c : Option V} {i : Int} (hf : f = some (.int i)) (m1 : 0 < many) (ha : H a = some (.dK (dkv b m d)))
    (k : ∀ r : Int, 0 ≤ r → r < many → D.rt (.int r) H) :
    (tSeq (tAsg (tOp rModU (tCB (rIntU) (tCons (tOp (rAddU G.K) (tOp rMulU (tVar 2) (tC (.int 39373))) (tC (.int 31))) tNil)) (tC (.int 2147483647))) (gName 2))
    (tSeq (tAsg (tOp rModU (tCB (rIntU) (tCons (tOp (rAddU G.K) (tOp (rAddU G.K) (tOp rMulU (tVar 2) (tVar 2)) (tOp rMulU (tC (.int 52713)) (tDGet (tVar 0) (tC (.str "draws"))))) (tC (.int 31))) tNil)) (tC (.int 2147483587))) (gName 2))
    (tSeq (tAsg (tOp rModU (tCB (rIntU) (tCons (tOp rMulU (tVar 2) (tC (.int 40692))) tNil)) (tC (.int 2147483563))) (gName 2))
    (tRet (tOp rModU (tCB (rIntU) (tCons (tOp rDivU (tVar 2) (tC (.int 64))) tNil)) (tVar 1)))))) D [some (.ref a), some (.int many), f, c] H := by
  subst hf
  refine st_asg (v_1 rfl fun j j0 j1 => ?_)
  refine st_asg (v_2 (a := a) rfl ha rfl j0 j1 fun n n0 n1 => ?_)
  refine st_asg (v_3 rfl fun p p0 => ?_)
  exact v_4 rfl rfl m1 k
theorem st_draws {u : TS} {D : Ends} (h0 : σ[0]? = some (some (.ref a))) (ha : H a = some (.dK (dkv b m d))) (h : u D σ (upd H a (.dK (dkv b m (d + 1))))) :
    (tSeq (sDPut (tVar 0) (tC (.str "draws")) (tOp (rAddU G.K) (tDGet (tVar 0) (tC (.str "draws"))) (tC (.int 1)))) u) D σ H := by
  show tDGet (tVar 0) (tC (.str "draws")) σ H _
  refine g_draws h0 ha (.inl ⟨d, 1, rfl, rfl, .ref a, h0, a, _, rfl, .inl ⟨_, .inr "draws", ha, rfl, ?_, rfl⟩, ?_⟩)
  · show 3 < sizeLine
    decide
  · rw [dk_put]
    exact h
theorem v_0 (h0 : σ[0]? = some (some (.ref a))) (ha : H a = some (.dK (dkv b m d))) (k : ∀ i : Int, Q (.int i) H) : tOp (rAddU G.K) (tDGet (tVar 0) (tC (.str "mixed"))) (tOp rMulU (tC (.int 61473)) (tDGet (tVar 0) (tC (.str "draws")))) σ H Q :=
  g_mixed h0 ha (g_draws h0 ha (.inl ⟨61473, d, rfl, rfl, .inl (by omega), .inl ⟨m, _, rfl, rfl, k _⟩⟩))
theorem v_ne {xs : List Int} (h0 : σ[0]? = some (some (.ref a))) (ha : H a = some (.dK (dkv b m d))) (hb : H b = some (.lst (xs.map V.int))) (k : ∀ (e : Bool) (H1 : Hp), Ex G H H1 → (e = true ↔ xs ≠ []) → Q (.bl e) H1) :
    tOp (rNeD G.K) (tDGet (tVar 0) (tC (.str "left"))) (tLst tNil) σ H Q := by
  refine g_left h0 ha ⟨Nat.zero_le _, fun p hp => ?_⟩
  have hb1 : upd H p (.lst []) b = some (.lst (xs.map V.int)) := by
    rw [upd_ne (fun e => by rw [e, hp] at hb; cases hb)]
    exact hb
  have okx : okD 1 (.lst (xs.map D.int)) = true := ok_lst (ok_map fun _ _ => ok_int)
  have oky : okD 1 (.lst []) = true := ok_lst (by simp)
  refine rd_ne (G := G) 1 okx oky (Q := fun d => d = .bl (!eqD (.lst (xs.map D.int)) (.lst []))) rfl (by decide) (fun _ => False) (upd H p (.lst [])) (.ref b) (.ref p) (fun _ z => z.elim) (.lst hb1 id dql_of_ints) (.lst upd_same id .nil) _ fun v H1 d e q hd => ?_
  subst hd
  rw [dq_bl q]
  refine k _ H1 ((Ex.new hp).trans e) ?_
  rw [Bool.not_eq_true', ← Bool.not_eq_true, eqD_true okx oky]
  constructor
  · intro h z
    exact h (by rw [z]; rfl)
  · intro h z
    injection z with z
    exact h (List.map_eq_nil_iff.mp z)
theorem law_draw {vs : List V} {E : XK} (h : spDr G vs H Q E) : t__law_draw G { nx := fun _ H' => Q .non H', rt := Q } (L2.start N__law_draw vs) H := by
  obtain ⟨a, b, m, d, xs, many, rfl, n, ha, hb, hz, m1, m2, k⟩ := h
  refine st_draws (σ := [some (.ref a), some (.int many), none, none]) rfl ha ?_
  have hH1 : ∃ H1, H1 = upd H a (.dK (dkv b m (d + 1))) := ⟨_, rfl⟩
  obtain ⟨H1, hH1⟩ := hH1
  rw [← hH1]
  have ha1 : H1 a = some (.dK (dkv b m (d + 1))) := by rw [hH1]; exact upd_same
  have hb1 : H1 b = some (.lst (xs.map V.int)) := by rw [hH1, upd_ne (Ne.symm n)]; exact hb
  have hk1 : ∀ c o, H c = some o → nt o → c ≠ a → c ≠ b → H1 c = some o := fun c o e _ z _ => by rw [hH1, upd_ne z]; exact e
  have hs1 : ∀ c, H1 c = none → H c = none := fun c e => by
    by_cases ca : c = a
    · subst ca
      rw [ha1] at e
      cases e
    · rw [hH1, upd_ne ca] at e
      exact e
  have ht1 : G.tb H → G.tb H1 := fun t => by rw [hH1]; exact G.tbw H a _ _ ha trivial t
  refine st_asg (v_0 (a := a) rfl ha1 fun i => ?_)
  show tOp (rNeD G.K) (tDGet (tVar 0) (tC (.str "left"))) (tLst tNil) _ H1 _
  refine v_ne (a := a) (xs := xs) rfl ha1 hb1 fun e H2 x2 he => ?_
  have ha2 := x2.at ha1
  have hb2 := x2.at hb1
  have hk2 : ∀ c o, H c = some o → nt o → c ≠ a → c ≠ b → H2 c = some o := fun c o e no z1 z2 => x2.k c o (hk1 c o e no z1 z2) no
  have hs2 : ∀ c, H2 c = none → H c = none := fun c e => hs1 c (x2.s c e)
  have ht2 : G.tb H → G.tb H2 := fun t => x2.t (ht1 t)
  refine ⟨e, rfl, ?_⟩
  cases e with
  | false =>
    refine iff_ ?_
    exact draw_tail rfl m1 ha2 fun r r0 r1 => k r H2 _ _ xs r0 r1 ha2 hb2 hz hk2 hs2 ht2
  | true =>
    refine ift ?_
    obtain ⟨ys, y, rfl⟩ : ∃ ys y, xs = ys ++ [y] := ⟨xs.dropLast, xs.getLast (he.mp rfl), (List.dropLast_concat_getLast (he.mp rfl)).symm⟩
    have hlen : ys.length + 1 ≤ 1000 := by rw [List.length_append] at hz; simpa using hz
    -- the last of the list goes
    have hH3 : ∃ H3, H3 = upd H2 b (.lst (ys.map V.int)) := ⟨_, rfl⟩
    obtain ⟨H3, hH3⟩ := hH3
    have ha3 : H3 a = some (.dK (dkv b m (d + 1))) := by rw [hH3, upd_ne n]; exact ha2
    have hb3 : H3 b = some (.lst (ys.map V.int)) := by rw [hH3]; exact upd_same
    have hk3 : ∀ c o, H c = some o → nt o → c ≠ a → c ≠ b → H3 c = some o := fun c o e no z1 z2 => by rw [hH3, upd_ne z2]; exact hk2 c o e no z1 z2
    have hs3 : ∀ c, H3 c = none → H c = none := fun c e => by
      by_cases cb : c = b
      · subst cb
        rw [hb3] at e
        cases e
      · rw [hH3, upd_ne cb] at e
        exact hs2 c e
    have ht3 : G.tb H → G.tb H3 := fun t => by rw [hH3]; exact G.tbw H2 b _ _ hb2 trivial (ht2 t)
    refine g_left (a := a) rfl ha2 ⟨.inl ⟨rfl, _, SqL.of hb2⟩, b, _, .int y, rfl, rfl, hb2, by simp, ?_⟩
    have el : ((ys ++ [y]).map V.int).dropLast = ys.map V.int := by rw [List.map_append]; simp
    rw [el, ← hH3]
    refine ⟨.int y, rfl, 10, 18, rfl, rfl, ⟨by omega, by omega, by decide⟩, y, _, rfl, rfl, _, rfl, ?_⟩
    refine ifd (fun hy => ?_) fun hy => ?_
    · -- a big cell: part of it goes back
      refine g_left (a := a) rfl ha3 ⟨.inl ⟨rfl, _, SqL.of hb3⟩, ?_⟩
      refine ⟨.int y, rfl, .int many, rfl, 2, many, rfl, ?_⟩
      refine ⟨y, _, rfl, rfl, ⟨by split <;> omega, by split <;> omega⟩, ?_⟩
      have hsz : (ys.map V.int).length < sizeLine := by
        have : 2000 ≤ sizeLine := by decide
        rw [List.length_map]
        omega
      refine ⟨b, _, _, rfl, rfl, hb3, hsz, ?_⟩
      refine ⟨.int y, rfl, .inl ⟨y, rfl, .int many, rfl, y, many, rfl, rfl, m1, ?_⟩⟩
      have hH4 : ∃ H4, H4 = upd H3 b (.lst (ys.map V.int ++ [.int (y / if many > 2 then many else 2)])) := ⟨_, rfl⟩
      obtain ⟨H4, hH4⟩ := hH4
      refine k _ _ _ _ (ys ++ [y / if many > 2 then many else 2]) (Int.emod_nonneg _ (by omega)) (Int.emod_lt_of_pos _ m1) (by rw [upd_ne n]; exact ha3) (by rw [upd_same, List.map_append] <;> rfl) (by rw [List.length_append]; simpa using hlen) (fun c o e no z1 z2 => by rw [upd_ne z2]; exact hk3 c o e no z1 z2) (fun c e => ?_) fun t => G.tbw H3 b _ _ hb3 trivial (ht3 t)
      by_cases cb : c = b
      · subst cb
        rw [upd_same] at e
        cases e
      · rw [upd_ne cb] at e
        exact hs3 c e
    · refine ⟨.int i, rfl, .int y, rfl, .inl ⟨y, rfl, y, 2147483629, rfl, rfl, by omega, .inl ⟨i, _, rfl, rfl, ?_⟩⟩⟩
      exact draw_tail rfl m1 ha3 fun r r0 r1 => k r H3 _ _ ys r0 r1 ha3 hb3 (by omega) hk3 hs3 ht3
end
end Sw
end

section
set_option Elab.async false
set_option autoImplicit false
set_option linter.all false
set_option maxRecDepth 100000
set_option maxHeartbeats 4000000
namespace Sw
open PySem PySem.Spec PyProof.Rows L2
def letters : Str := "abcdefghijklmnopqrstuvwxyz"
def isNm (x : Str) : Bool := decide (1 ≤ x.length ∧ x.length ≤ 8) && x.cps.toList.all fun c => decide (c ∈ letters.cps.toList)
def F_is_name : FD := fun ds Q => ∃ x : Str, ds = [.str x] ∧ x.length ≤ 1000 ∧ Q (.bl (isNm x))
abbrev sp_is_name (G : Gx) : Sp := spD G 1 F_is_name
/-- a kind, a pattern -/
abbrev Pt : Type := List Str
def pK (p : Pt) : List Key := p.map Sum.inr
abbrev pD (p : Pt) : D := .tup (p.map D.str)
theorem pD_Tp (p : Pt) : pD p = Tp (pK p) := by
  unfold pD Tp pK
  rw [List.map_map] <;> rfl
def hT (p : Pt) : Bool := decide (p.getLast? = some ("T" : Str))
/-- a pattern that holds -/
structure PtOk (p : Pt) : Prop where
  ne : p ≠ []
  ok : ∀ x ∈ p, sOk x
  short : p.length ≤ 100
  names : ∀ x ∈ p.dropLast, isNm x = true
  last : isNm (p.getLast ne) = true ∨ p.getLast ne = "T"
def F_has_hole : FD := fun ds Q => ∃ p : Pt, ds = [pD p] ∧ PtOk p ∧ Q (.bl (hT p))
abbrev sp_has_hole (G : Gx) : Sp := spD G 1 F_has_hole
def F_is_pattern : FD := fun ds Q => ∃ p : Pt, ds = [pD p] ∧ PtOk p ∧ Q (.bl true)
abbrev sp_is_pattern (G : Gx) : Sp := spD G 1 F_is_pattern
def words : List Str := ["let", "if", "give"]
def opers : List Str := ["+", "-", "*", "/", "&", "|", "^"]
def sorts : List Str := ["function", "method", "operator"]
def F_is_name_token : FD := fun ds Q => ∃ x : Str, ds = [.str x] ∧ isNm x = true ∧ x ∉ words ∧ Q (.bl true)
abbrev sp_is_name_token (G : Gx) : Sp := spD G 1 F_is_name_token
/-- an entry -/
structure En where
  sort : Str
  name : Str
  ps : List Pt
  res : Pt
deriving DecidableEq
abbrev enD (e : En) : D := .tup [.str e.sort, .str e.name, .tup (e.ps.map pD), pD e.res]
def numOk (sort : Str) (n : Nat) : Prop := if sort = "operator" then n = 2 else n ≤ 4 ∧ (0 < n ∨ sort = "function")
def nameOk (sort name : Str) : Prop := if sort = "operator" then name ∈ opers else isNm name = true ∧ name ∉ words
structure EnOk (e : En) : Prop where
  sort : e.sort ∈ sorts
  name : nameOk e.sort e.name
  num : numOk e.sort e.ps.length
  ps : ∀ p ∈ e.ps, PtOk p
  res : PtOk e.res
  hole : hT e.res = false ∨ ∃ p ∈ e.ps, hT p = true
  nok : sOk e.name
def partOk (bases cons : List Str) (p : Pt) : Prop := (∀ x ∈ p.dropLast, x ∈ cons) ∧ ∀ h : p ≠ [], p.getLast h = "T" ∨ p.getLast h ∈ bases
structure EnOf (bases cons : List Str) (e : En) : Prop where
  ok : EnOk e
  ps : ∀ p ∈ e.ps, partOk bases cons p
  res : partOk bases cons e.res
def F_has_parts_of : FD := fun ds Q => ∃ (p : Pt) (bases cons : List Str), ds = [pD p, pD bases, pD cons] ∧ PtOk p ∧ partOk bases cons p ∧ Q (.bl true)
abbrev sp_has_parts_of (G : Gx) : Sp := spD G 3 F_has_parts_of
def F_is_entry_name : FD := fun ds Q => ∃ s x : Str, ds = [.str s, .str x] ∧ s ∈ sorts ∧ nameOk s x ∧ Q (.bl true)
abbrev sp_is_entry_name (G : Gx) : Sp := spD G 2 F_is_entry_name
def F_fits_number : FD := fun ds Q => ∃ (s : Str) (n : Nat), ds = [.str s, .int n] ∧ s ∈ sorts ∧ numOk s n ∧ Q (.bl true)
abbrev sp_fits_number (G : Gx) : Sp := spD G 2 F_fits_number
def F_is_entry : FD := fun ds Q => ∃ e : En, ds = [enD e] ∧ EnOk e ∧ Q (.bl true)
abbrev sp_is_entry (G : Gx) : Sp := spD G 1 F_is_entry
def F_is_entry_of : FD := fun ds Q => ∃ (e : En) (bases cons : List Str), ds = [enD e, pD bases, pD cons] ∧ EnOf bases cons e ∧ Q (.bl true)
abbrev sp_is_entry_of (G : Gx) : Sp := spD G 3 F_is_entry_of
/-- a pattern with a kind in T's place -/
def fill (t : Pt) (p : Pt) : Pt := if hT p = true then p.dropLast ++ t else p
/-- two entries take the same kinds -/
def clash (a b : En) : Prop := a.sort = b.sort ∧ a.name = b.name ∧ a.ps.length = b.ps.length ∧ ∃ t u : Pt, t ≠ [] ∧ u ≠ [] ∧ a.ps.map (fill t) = b.ps.map (fill u)
def F_do_clash : FD := fun ds Q => ∃ a b : En, ds = [enD a, enD b] ∧ EnOk a ∧ EnOk b ∧ ∀ c : Bool, (c = true ↔ clash a b) → Q (.bl c)
abbrev sp_do_clash (G : Gx) : Sp := spD G 2 F_do_clash
def F_clash_with : FD := fun ds Q => ∃ (e : En) (d : D) (es : List En), ds = [enD e, d] ∧ itemsD d = some (es.map enD) ∧ EnOk e ∧ (∀ x ∈ es, EnOk x) ∧ (∀ x ∈ es, clash x e → Q (enD x)) ∧ ((∀ x ∈ es, ¬ clash x e) → Q .non)
abbrev sp_clash_with (G : Gx) : Sp := spD G 2 F_clash_with
end Sw
end

section
set_option Elab.async false
set_option autoImplicit false
set_option linter.all false
set_option maxRecDepth 100000
set_option maxHeartbeats 4000000
namespace Sw
open PySem PySem.Spec PyProof.Rows L2
def N_is_name : List Str := ["thing", "sign"]
theorem nd_is_name : N_is_name.Nodup := by decide +kernel
def t_is_name (G : Gx) : TS :=
    (tSeq (tIfS (tOr (tNot (tB (tCB (rIsi G.K) (tCons (tVar 0) (tCons (tC (.ty "str")) tNil))))) (tNot (tTest (tChain rLeU rLeU (tC (.int 1)) (tCB (rLenU G.K) (tCons (tVar 0) tNil)) (tC (.int 8)))))) (tRet (tC (.bl false))) tNext)
    (tRet (tCB (rAll G.K) (tCons (tLc (iStr (tVar 0)) (gName 1) tYes (tOp (rInU G.K) (tVar 1) (tC (.str "abcdefghijklmnopqrstuvwxyz"))) [1]) tNil))))

def N_has_hole : List Str := ["pattern"]
theorem nd_has_hole : N_has_hole.Nodup := by decide +kernel
def t_has_hole (G : Gx) : TS :=
    (tRet (tAndV (tCB (rIsi G.K) (tCons (tOp (rIx G.K) (tVar 0) (tUn (rU fun i => .int (-i)) (tC (.int 1)))) (tCons (tC (.ty "str")) tNil))) (tOp (rEqD G.K) (tOp (rIx G.K) (tVar 0) (tUn (rU fun i => .int (-i)) (tC (.int 1)))) (tC (.str "T")))))

def N_is_pattern : List Str := ["thing", "part"]
theorem nd_is_pattern : N_is_pattern.Nodup := by decide +kernel
def t_is_pattern (G : Gx) : TS :=
    (tSeq (tIfS (tOr (tNot (tB (tCB (rIsi G.K) (tCons (tVar 0) (tCons (tC (.ty "tuple")) tNil))))) (tOr (tTest (tOp (rEqD G.K) (tVar 0) (tTup tNil))) (tNot (tB (tCB (rAll G.K) (tCons (tLc (iSeq G.K (tSl (rSlU G.K) (tVar 0) tNoPart (tPart (tUn (rU fun i => .int (-i)) (tC (.int 1)))))) (gName 1) tYes (tCall (sp_is_name G) [] E0 (tCons (tVar 1) tNil)) [1]) tNil)))))) (tRet (tC (.bl false))) tNext)
    (tRet (tOrV (tCall (sp_is_name G) [] E0 (tCons (tOp (rIx G.K) (tVar 0) (tUn (rU fun i => .int (-i)) (tC (.int 1)))) tNil)) (tCall (sp_has_hole G) [] E0 (tCons (tVar 0) tNil)))))

def N_is_name_token : List Str := ["thing"]
theorem nd_is_name_token : N_is_name_token.Nodup := by decide +kernel
def t_is_name_token (G : Gx) : TS :=
    (tRet (tAndV (tCall (sp_is_name G) [] E0 (tCons (tVar 0) tNil)) (tOp (rNotInU G.K) (tVar 0) (tC (.ref (He.ga G.K "WORDS"))))))

def N_has_parts_of : List Str := ["pattern", "bases", "constructors", "name"]
theorem nd_has_parts_of : N_has_parts_of.Nodup := by decide +kernel
def t_has_parts_of (G : Gx) : TS :=
    (tSeq (tIfS (tNot (tB (tCB (rAll G.K) (tCons (tLc (iSeq G.K (tSl (rSlU G.K) (tVar 0) tNoPart (tPart (tUn (rU fun i => .int (-i)) (tC (.int 1)))))) (gName 3) tYes (tOp (rInU G.K) (tVar 3) (tVar 2)) [3]) tNil)))) (tRet (tC (.bl false))) tNext)
    (tRet (tOrV (tOp (rEqD G.K) (tOp (rIx G.K) (tVar 0) (tUn (rU fun i => .int (-i)) (tC (.int 1)))) (tC (.str "T"))) (tOp (rInU G.K) (tOp (rIx G.K) (tVar 0) (tUn (rU fun i => .int (-i)) (tC (.int 1)))) (tVar 1)))))

def N_is_entry_name : List Str := ["sort", "thing"]
theorem nd_is_entry_name : N_is_entry_name.Nodup := by decide +kernel
def t_is_entry_name (G : Gx) : TS :=
    (tSeq (tIfS (tTest (tOp (rEqD G.K) (tVar 0) (tC (.str "operator")))) (tRet (tAndV (tCB (rIsi G.K) (tCons (tVar 1) (tCons (tC (.ty "str")) tNil))) (tOp (rInU G.K) (tVar 1) (tC (.ref (He.ga G.K "OPERATORS")))))) tNext)
    (tRet (tCall (sp_is_name_token G) [] E0 (tCons (tVar 1) tNil))))

def N_fits_number : List Str := ["sort", "many"]
theorem nd_fits_number : N_fits_number.Nodup := by decide +kernel
def t_fits_number (G : Gx) : TS :=
    (tSeq (tIfS (tTest (tOp (rEqD G.K) (tVar 0) (tC (.str "operator")))) (tRet (tOp (rEqD G.K) (tVar 1) (tC (.int 2)))) tNext)
    (tRet (tAndV (tOp rLeU (tVar 1) (tC (.int 4))) (tOrV (tOp rGtU (tVar 1) (tC (.int 0))) (tOp (rEqD G.K) (tVar 0) (tC (.str "function")))))))

def N_is_entry : List Str := ["thing", "sort", "name", "parameters", "result", "pattern"]
theorem nd_is_entry : N_is_entry.Nodup := by decide +kernel
def t_is_entry (G : Gx) : TS :=
    (tSeq (tIfS (tOr (tNot (tB (tCB (rIsi G.K) (tCons (tVar 0) (tCons (tC (.ty "tuple")) tNil))))) (tOr (tTest (tOp (rNeD G.K) (tCB (rLenU G.K) (tCons (tVar 0) tNil)) (tC (.int 4)))) (tOr (tNot (tB (tCB (rIsi G.K) (tCons (tOp (rIx G.K) (tVar 0) (tC (.int 0))) (tCons (tC (.ty "str")) tNil))))) (tTest (tOp (rNotInU G.K) (tOp (rIx G.K) (tVar 0) (tC (.int 0))) (tC (.ref (He.ga G.K "SORTS")))))))) (tRet (tC (.bl false))) tNext)
    (tSeq (tAsg (tVar 0) (gTup G.K 4 (gCons (gName 1) (gCons (gName 2) (gCons (gName 3) (gCons (gName 4) gNil))))))
    (tSeq (tIfS (tOr (tNot (tB (tCall (sp_is_entry_name G) [] E0 (tCons (tVar 1) (tCons (tVar 2) tNil))))) (tOr (tNot (tB (tCB (rIsi G.K) (tCons (tVar 3) (tCons (tC (.ty "tuple")) tNil))))) (tNot (tB (tCall (sp_fits_number G) [] E0 (tCons (tVar 1) (tCons (tCB (rLenU G.K) (tCons (tVar 3) tNil)) tNil))))))) (tRet (tC (.bl false))) tNext)
    (tSeq (tIfS (tNot (tB (tCB (rAll G.K) (tCons (tLc (iSeq G.K (tTup (StX.tStar G.K (tVar 3) (tCons (tVar 4) tNil)))) (gName 5) tYes (tCall (sp_is_pattern G) [] E0 (tCons (tVar 5) tNil)) [5]) tNil)))) (tRet (tC (.bl false))) tNext)
    (tRet (tOrV (tOp (rNeD G.K) (tOp (rIx G.K) (tVar 4) (tUn (rU fun i => .int (-i)) (tC (.int 1)))) (tC (.str "T"))) (tCB (rAny G.K) (tCons (tLc (iSeq G.K (tVar 3)) (gName 5) tYes (tOp (rEqD G.K) (tOp (rIx G.K) (tVar 5) (tUn (rU fun i => .int (-i)) (tC (.int 1)))) (tC (.str "T"))) [5]) tNil))))))))

def N_is_entry_of : List Str := ["thing", "bases", "constructors", "pattern"]
theorem nd_is_entry_of : N_is_entry_of.Nodup := by decide +kernel
def t_is_entry_of (G : Gx) : TS :=
    (tSeq (tIfS (tNot (tB (tCall (sp_is_entry G) [] E0 (tCons (tVar 0) tNil)))) (tRet (tC (.bl false))) tNext)
    (tRet (tCB (rAll G.K) (tCons (tLc (iSeq G.K (tTup (StX.tStar G.K (tOp (rIx G.K) (tVar 0) (tC (.int 2))) (tCons (tOp (rIx G.K) (tVar 0) (tC (.int 3))) tNil)))) (gName 3) tYes (tCall (sp_has_parts_of G) [] E0 (tCons (tVar 3) (tCons (tVar 1) (tCons (tVar 2) tNil)))) [3]) tNil))))

def N_do_clash : List Str := ["one", "other", "ours", "theirs", "pattern"]
theorem nd_do_clash : N_do_clash.Nodup := by decide +kernel
def t_do_clash (G : Gx) : TS :=
    (tSeq (tIfS (tOr (tTest (tOp (rNeD G.K) (tSl (rSlU G.K) (tVar 0) tNoPart (tPart (tC (.int 2)))) (tSl (rSlU G.K) (tVar 1) tNoPart (tPart (tC (.int 2)))))) (tTest (tOp (rNeD G.K) (tCB (rLenU G.K) (tCons (tOp (rIx G.K) (tVar 0) (tC (.int 2))) tNil)) (tCB (rLenU G.K) (tCons (tOp (rIx G.K) (tVar 1) (tC (.int 2))) tNil))))) (tRet (tC (.bl false))) tNext)
    (tSeq (tPar 2 3 (tCons (tLc (iSeq G.K (tOp (rIx G.K) (tVar 0) (tC (.int 2)))) (gName 4) tYes (tCall (sp_put G) [] E0 (tCons (tVar 4) (tCons (tTup (tCons (tC (.int 0)) tNil)) tNil))) [4]) (tCons (tLc (iSeq G.K (tOp (rIx G.K) (tVar 1) (tC (.int 2)))) (gName 4) tYes (tCall (sp_put G) [] E0 (tCons (tVar 4) (tCons (tTup (tCons (tC (.int 1)) tNil)) tNil))) [4]) tNil)))
    (tRet (tOp rNotN (tCall (sp_unified_all G) [] E0 (tCons (tVar 2) (tCons (tVar 3) (tCons tDNewK tNil)))) (tC .non)))))

def N_clash_with : List Str := ["entry", "others", "other"]
theorem nd_clash_with : N_clash_with.Nodup := by decide +kernel
def t_clash_with (G : Gx) : TS :=
    (tSeq (tFor (iSeq G.K (tVar 1)) (gName 2) (tIfS (tB (tCall (sp_do_clash G) [] E0 (tCons (tVar 2) (tCons (tVar 0) tNil)))) (tRet (tVar 2)) tNext))
    (tRet (tC .non)))
end Sw
end

section
set_option Elab.async false
set_option autoImplicit false
set_option linter.all false
set_option maxRecDepth 100000
set_option maxHeartbeats 4000000
namespace Sw
open PySem PySem.Spec PyProof.Rows L2 PySem.W
section
variable {prog : Program} {w : World} {A : Around} {E : Value → Shared → Prop} {s : Shared}
theorem sorted_seq {l : Addr} {T : String} {o : Obj} {vs : List Value} {n : Nat} {kw : List (Str × Value)} {Q : Value → Shared → Prop} (hT : T = "list" ∨ T = "tuple") (ho : s.heap.get? l = some o) (hc : o.cls = .type T) (hd : o.data = .seq vs.toArray n)
    (hL : vs.length ≤ sizeLine) (ha1 : argsOk "sorted" ⟨[.ref l], kw⟩)
    (body : ∀ h1 : Heap, (∀ b o, s.heap.get? b = some o → h1.get? b = some o) →
      wpAny (model prog w) A.in1 (call (.builtin "list.sort") [.ref h1.objs.size] kw) (fun _ s' => Q (.ref h1.objs.size) s') (fun _ _ => False) { s with heap := h1.push (seqObj "list" vs.toArray 0) }) :
    wpAny (model prog w) A (call (.builtin "sorted") [.ref l] kw) Q E s := by
  refine call_function_entry_kw kind_sorted plain_sorted entry_sorted ha1 ?_
  unfold Builtin.«sorted»
  refine wpAny_bind (m := checkCount "sorted" 1 1 _) (wpAny_pure ?_)
  refine wpAny_bind (wpAny_collect_seq l hT ho hc hd (fun h1 hk => ?_) (by rw [List.size_toArray]; exact hL))
  have e : vs.toArray.toList = vs := by simp
  rw [e]
  refine wpAny_bind (wpAny_newList ?_ hL)
  refine wpAny_bind (wpAny_holding (wpAny_mono (body h1 hk) (fun v s' hq => ?_) fun _ _ z => z.elim))
  exact wpAny_pure ⟨_, rfl, hq⟩
mutual
theorem reads_there {h : Heap} : ∀ {d : PyData} {v : Value} {as : List Addr}, Reads h v d as → ∀ x ∈ as, ∃ o, h.get? x = some o
  | _, _, _, .none, x, hx => by cases hx
  | _, _, _, .bool _, x, hx => by cases hx
  | _, _, _, .int _ _, x, hx => by cases hx
  | _, _, _, .str _ _, x, hx => by cases hx
  | _, _, _, .list h1 h2 h3 h4, x, hx => by
    rcases List.mem_cons.mp hx with e | e
    · subst e
      exact ⟨_, h1⟩
    · exact readsAll_there h4 x e
  | _, _, _, .tuple h1 h2 h3 h4, x, hx => readsAll_there h4 x hx
  | _, _, _, .dict h1 h2 h3 h4 h5, x, hx => by
    rcases List.mem_append.mp hx with e | e
    · rcases List.mem_cons.mp e with e | e
      · subst e
        exact ⟨_, h1⟩
      · exact readsAll_there h4 x e
    · exact readsAll_there h5 x e
theorem readsAll_there {h : Heap} : ∀ {ds : List PyData} {vs : List Value} {as : List Addr}, ReadsAll h vs ds as → ∀ x ∈ as, ∃ o, h.get? x = some o
  | _, _, _, .nil, x, hx => by cases hx
  | _, _, _, .cons h1 h2, x, hx => by
    rcases List.mem_append.mp hx with e | e
    · exact reads_there h1 x e
    · exact readsAll_there h2 x e
end
end
/-- values by the order of what they read as -/
def srtV (xs : List V) (ds : List PyData) : List V := ((xs.zip ds).mergeSort (dataLe false Prod.snd)).map Prod.fst
def rSortedD (K : PySem.W.Frag) : List V → Hp → VK → Prop := fun vs H Q => ∃ (a : Addr) (xs : List V) (ds : List PyData), vs = [V.ref a] ∧ (SqL K H a xs ∨ SqT K H a xs) ∧ DpAll K H xs ds ∧ AllAlike ds ∧ Sortable ds ∧ (∀ d ∈ ds, d.depth ≤ 40) ∧
  ∀ p, H p = none → Q (.ref p) (upd H p (.lst (srtV xs ds)))
theorem each_vals {R : V × PyData → Value → Prop} : ∀ {out : List Value} {bs : List (V × PyData)}, EachIs (fun u b => RelV b.1 u) out bs → Vals (bs.map Prod.fst) out
  | _, _, .nil => .nil
  | _, _, .cons h t => .cons h (each_vals (R := R) t)
section
variable {X : Cx}
theorem dp_each {pins : List (Addr × Obj)} {σ : L2.St} {H : Hp} {s : Shared} (I : L2.Inv X pins σ H s) : ∀ {xs : List V} {ds : List PyData} {us : List Value}, DpAll X.K H xs ds → Vals xs us → EachIs (fun u b => RelV b.1 u ∧ ∃ as, Reads s.heap u b.2 as) us (xs.zip ds)
  | _, _, _, .nil, .nil => .nil
  | _, _, _, .cons h1 h2, .cons r1 r2 => .cons ⟨r1, Dp.reads I _ _ _ h1 r1⟩ (dp_each I h2 r2)
theorem dpAll_length {K : PySem.W.Frag} {H : Hp} : ∀ {xs : List V} {ds : List PyData}, DpAll K H xs ds → xs.length = ds.length
  | _, _, .nil => rfl
  | _, _, .cons _ h => congrArg Nat.succ (dpAll_length h)
theorem each_imp {α β : Type} {R S : α → β → Prop} (f : ∀ a b, R a b → S a b) : ∀ {as : List α} {bs : List β}, EachIs R as bs → EachIs S as bs
  | _, _, .nil => .nil
  | _, _, .cons h t => .cons (f _ _ h) (each_imp f t)
theorem zip_snd {α β : Type} : ∀ {xs : List α} {ds : List β}, xs.length = ds.length → (xs.zip ds).map Prod.snd = ds
  | [], [], _ => rfl
  | [], _ :: _, h => by cases h
  | _ :: _, [], h => by cases h
  | x :: xs, d :: ds, h => by rw [List.zip_cons_cons, List.map_cons, zip_snd (by simpa using h)]
theorem cr_sortedD (hu : X.A.units + 64 < cLine) : CallR X (.builtin "sorted") (rSortedD X.K) := by
  intro pins s σ H vs us Q I r h
  obtain ⟨a, xs, ds, rfl, hs, hd, hal, hk, hdep, q⟩ := h
  cases r with
  | cons ru rn =>
  cases rn
  rename_i u
  obtain rfl : u = Value.ref a := ru
  obtain ⟨its, rv, T, o, n, hT, ho, hc, hda, hz⟩ : ∃ (its : List Value) (_ : Vals xs its) (T : String) (o : Obj) (n : Nat), (T = "list" ∨ T = "tuple") ∧ s.heap.get? a = some o ∧ o.cls = .type T ∧ o.data = .seq its.toArray n ∧ xs.length ≤ sizeLine := by
    rcases hs with hs | hs
    · obtain ⟨its, rv, hl, hz⟩ := I.list hs
      obtain ⟨o, ho, hc, n, hd⟩ := hl.isList
      exact ⟨its, rv, "list", o, n, .inl rfl, ho, hc, hd, hz⟩
    · obtain ⟨its, rv, ht, hz⟩ := I.tuple hs
      obtain ⟨o, ho, hc, n, hd⟩ := ht
      exact ⟨its, rv, "tuple", o, n, .inr rfl, ho, hc, hd, hz⟩
  have hl := rv.length
  have hld := dpAll_length hd
  have e0 := dp_each I hd rv
  refine sorted_seq hT ho hc hda (by omega) (args_sorted1 _) fun h1 hk1 => ?_
  have I1 := I.kept (t' := s.toks) hk1
  have up : ∀ b ob, s.heap.get? b = some ob → (h1.push (seqObj "list" its.toArray 0)).get? b = some ob := fun b ob z => Heap.get?_push_of_some _ (hk1 b ob z)
  refine list_sort_data (s := { s with heap := h1.push (seqObj "list" its.toArray 0) }) (R := fun u b => RelV b.1 u) (enc := Prod.snd) (Heap.get?_push_size _ rfl) (each_imp (fun _ _ z => z.1) e0) (each_imp (fun u b z => ?_) e0) (by rw [zip_snd hld]; exact hal) (by rw [zip_snd hld]; exact hk) (by rw [List.length_zip]; omega) (fun b hb => ?_) fun out hlen eo => ?_
  · obtain ⟨_, as, hr⟩ := z
    refine ⟨as, PyProof.Rows.Reads.keeps up hr, fun hm => ?_⟩
    obtain ⟨ob, hob⟩ := reads_there hr _ hm
    exact Nat.lt_irrefl _ (Heap.lt_size (hk1 _ _ hob))
  · have := hdep b.2 (List.of_mem_zip (a := b.1) (b := b.2) hb).2
    show X.A.units + 1 + 1 + b.2.depth < cLine
    omega
  · have hv : Vals (srtV xs ds) out := each_vals (R := fun _ _ => True) eo
    obtain ⟨c, hc2⟩ := sortedHeap_at (h := h1.push (seqObj "list" its.toArray 0)) (a := h1.objs.size) (vs := its) (n := 0) (out := out.toArray) (Heap.get?_push_size _ rfl)
    have hn : H h1.objs.size = none := I1.hok.fresh (Nat.le_refl _)
    have hlen2 : (srtV xs ds).length ≤ sizeLine := by
      unfold srtV
      rw [List.length_map, List.length_mergeSort, List.length_zip]
      omega
    refine ⟨.ref h1.objs.size, _, I1.laid (t' := s.toks) (o := .lst (srtV xs ds)) (fun b ob z => ?_) (Nat.le_refl _) ⟨hlen2, out, c, hv, hc2⟩, rfl, q _ hn⟩
    have z2 := Heap.get?_push_of_some (seqObj "list" its.toArray 0) z
    exact (sortedHeap_old (Nat.ne_of_lt (Heap.lt_size z)) (Heap.lt_size z2)).trans z2
end
/-- the order of data -/
def leD (x y : D) : Bool := dataLe false pyT x y
def srtD (xs : List D) : List D := xs.mergeSort leD
theorem pyTs_map : ∀ xs : List D, pyTs xs = xs.map pyT
  | [] => by simp [pyTs]
  | x :: xs => by simp [pyTs, pyTs_map xs]
section
variable {G : Gx}
theorem dql_zip {Bh : Addr → Prop} {H : Hp} : ∀ {xs : List V} {ds : List D}, DqL G Bh H xs ds → ∀ p ∈ xs.zip ds, Dq G Bh H p.1 p.2
  | _, _, .nil, p, hp => by cases hp
  | _, _, .cons h t, p, hp => by
    rw [List.zip_cons_cons] at hp
    rcases List.mem_cons.mp hp with e | e
    · subst e
      exact h
    · exact dql_zip t p e
theorem dql_of {Bh : Addr → Prop} {H : Hp} : ∀ {zs : List (V × D)}, (∀ p ∈ zs, Dq G Bh H p.1 p.2) → DqL G Bh H (zs.map Prod.fst) (zs.map Prod.snd)
  | [], _ => .nil
  | z :: zs, h => .cons (h z (by simp)) (dql_of fun p hp => h p (List.mem_cons_of_mem _ hp))
theorem srt_rel {Bh : Addr → Prop} {H : Hp} {xs : List V} {ds : List D} (r : DqL G Bh H xs ds) : DqL G Bh H (srtV xs (pyTs ds)) (srtD ds) := by
  have hl := r.length
  have e1 : srtV xs (pyTs ds) = ((xs.zip ds).mergeSort fun p q => leD p.2 q.2).map Prod.fst := by
    unfold srtV
    have ez : xs.zip (pyTs ds) = (xs.zip ds).map fun p => (p.1, pyT p.2) := by
      rw [pyTs_map, List.zip_map_right]
      rfl
    have em : (((xs.zip ds).mergeSort fun p q => leD p.2 q.2).map fun p => (p.1, pyT p.2)) = ((xs.zip ds).map fun p => (p.1, pyT p.2)).mergeSort (dataLe false Prod.snd) :=
      List.map_mergeSort fun a _ b _ => rfl
    rw [ez, ← em, List.map_map]
    rfl
  have e2 : srtD ds = ((xs.zip ds).mergeSort fun p q => leD p.2 q.2).map Prod.snd := by
    have em : (((xs.zip ds).mergeSort fun p q => leD p.2 q.2).map Prod.snd) = ((xs.zip ds).map Prod.snd).mergeSort leD := List.map_mergeSort fun a _ b _ => rfl
    rw [em, zip_snd hl]
    rfl
  rw [e1, e2]
  refine dql_of fun p hp => dql_zip r p ?_
  exact (List.mergeSort_perm _ _).mem_iff.mp hp
/-- sorted(xs): alike data; all tuples that are not empty, or none a tuple -/
theorem rcn_sorted (n : Nat) {x : D} {xs : List D} {Q : List D → Prop} (hx : itemsD x = some xs) (ok : okDs n xs = true) (hal : ∀ d ∈ xs, ∀ e ∈ xs, alike (pyT d) (pyT e) = true) (hk : Sortable (xs.map pyT)) (q : Q (srtD xs)) (hn : n ≤ 40 := by decide) : RCN G (rSortedD G.K) [x] Q := fun Bh H vs al h Qv k => by
  cases h with
  | cons h hh =>
    cases hh
    obtain ⟨p1, p2, p3⟩ := okDs_py n xs ok
    have hal2 : AllAlike (pyTs xs) := fun d hd e he => by
      rw [pyTs_map] at hd he
      obtain ⟨d', hd', rfl⟩ := List.mem_map.mp hd
      obtain ⟨e', he', rfl⟩ := List.mem_map.mp he
      exact hal d' hd' e' he'
    have hdep : ∀ d ∈ pyTs xs, d.depth ≤ 40 := fun d hd => by
      rw [pyTs_map] at hd
      obtain ⟨d', hd', rfl⟩ := List.mem_map.mp hd
      have := (okD_py n d' (okDs_all.mp ok d' hd')).2.2
      omega
    have hk2 : Sortable (pyTs xs) := by rw [pyTs_map]; exact hk
    cases x with
    | lst ys =>
      cases hx
      obtain ⟨a, us, rfl, h1, nb, r⟩ := dq_lst h
      exact ⟨a, us, _, rfl, .inl (SqL.of h1), r.dp p1, hal2, hk2, hdep, fun p hp => k p _ _ _ hp (Ex.new hp) upd_same (((srt_rel r).fresh hp).mono (Ex.new hp)) q⟩
    | tup ys =>
      cases hx
      obtain ⟨a, us, rfl, h1, r⟩ := dq_tup h
      exact ⟨a, us, _, rfl, .inr h1, r.dp p1, hal2, hk2, hdep, fun p hp => k p _ _ _ hp (Ex.new hp) upd_same (((srt_rel r).fresh hp).mono (Ex.new hp)) q⟩
    | _ => cases hx
end
end Sw
end

section
set_option Elab.async false
set_option autoImplicit false
set_option linter.all false
set_option maxRecDepth 100000
set_option maxHeartbeats 4000000
namespace Sw
open PySem PySem.Spec PyProof.Rows L2 PySem.W
def kP (k : List Int) : PyData := .tuple (k.map .int)
theorem sqt_ex {G : Gx} {K : PySem.W.Frag} {H H' : Hp} {a : Addr} {xs : List V} (e : Ex G H H') (h : SqT K H a xs) : SqT K H' a xs := sqt_ext (Ext.of (B := fun _ => False) e) h
/-- an address that is the layer's own, and not tracked -/
structure Own (X : Cx) (pins : List (Addr × Obj)) (a : Addr) : Prop where
  loc : a ≠ X.env.locals
  fs : a ∉ X.fs
  new : X.s_0.heap.objs.size ≤ a
  cell : ∀ x c, X.env.cells.lookup x = some c → c ≠ a
  pin : ∀ p ∈ X.pn ++ pins, p.1 ≠ a
theorem own_fresh {X : Cx} {pins : List (Addr × Obj)} {σ : L2.St} {H : Hp} {s : Shared} (I : L2.Inv X pins σ H s) {a : Addr} (h : s.heap.objs.size ≤ a) : Own X pins a := by
  refine ⟨fun e => ?_, I.nofs h, Nat.le_trans I.sz h, fun x c e z => ?_, fun p hp z => ?_⟩
  · have q := I.lt
    rw [← e] at q
    exact Nat.lt_irrefl _ (Nat.lt_of_lt_of_le q h)
  · subst z
    obtain ⟨v, o, ho, _⟩ := I.cell x c e
    exact Nat.lt_irrefl _ (Nat.lt_of_lt_of_le (Heap.lt_size ho) h)
  · subst z
    exact Nat.lt_irrefl _ (Nat.lt_of_lt_of_le (Heap.lt_size (I.pin p hp).1) h)
section
variable {X : Cx} {G : Gx} {pins : List (Addr × Obj)} {σ : L2.St} {H : Hp} {s : Shared} {A : Around} {E : Value → Shared → Prop}
/-- a list of ours is tracked from now on; another record of ours may have changed -/
theorem inv_adopt {a kS : Addr} {ys : List V} {out : List Value} {h' : Heap} {t' c : Nat} (I : L2.Inv X pins σ H s) (oa : Own X pins a) (ok : Own X pins kS) (na : H a = none) (nk : H kS = none) (kp : ∀ b o, b ≠ a → b ≠ kS → s.heap.get? b = some o → h'.get? b = some o)
    (ha : h'.get? a = some (seqObj "list" out.toArray c)) (hz : ys.length ≤ sizeLine) (rv : Vals ys out) : L2.Inv X pins σ (upd H a (.lst ys)) { s with heap := h', toks := t' } := by
  have ne : ∀ b u, H b = some u → b ≠ a ∧ b ≠ kS := fun b u e => ⟨fun z => (by rw [z, na] at e; cases e), fun z => (by rw [z, nk] at e; cases e)⟩
  have up : ∀ b, b ≠ a → upd H a (.lst ys) b = H b := fun b h => upd_ne h
  have nch : ∀ b, b ∉ [a, kS] → b ≠ a ∧ b ≠ kS := fun b h => ⟨fun z => h (by simp [z]), fun z => h (by simp [z])⟩
  refine I.step (g' := s.gens) (d' := s.drawn) (ch := [a, kS]) (fun b hb => ?_) (fun b o _ _ hc e _ => kp b o (nch b hc).1 (nch b hc).2 e) (fun b o _ _ hc e _ => ⟨o.slots, kp b o (nch b hc).1 (nch b hc).2 e⟩)
    (fun b o hc _ n => by rw [up b (nch b hc).1]; exact n) (fun b o hc e => ⟨o, kp b o (nch b hc).1 (nch b hc).2 e⟩) (fun b xs e => by rw [up b (ne b _ e).1]; exact e) (fun b o u e => by rw [up b (ne b _ e).1]; exact e) (fun b ps e => ⟨#[], by rw [up b (ne b _ e).1, e]; simp⟩) (fun m hm => ?_) (fun b u e => ?_) I.bare
  · have hb2 : b = a ∨ b = kS := by simpa using hb
    rcases hb2 with z | z
    · subst z
      exact ⟨.inr oa.new, oa.loc, oa.cell, oa.pin⟩
    · subst z
      exact ⟨.inr ok.new, ok.loc, ok.cell, ok.pin⟩
  · obtain ⟨o, es, ep, ho, r⟩ := hm
    exact ⟨o, es, ep, kp _ o (Ne.symm oa.loc) (Ne.symm ok.loc) ho, r⟩
  · by_cases hb : b = a
    · subst hb
      rw [upd_same] at e
      cases e
      exact ⟨hz, out, c, rv, ha⟩
    · rw [up b hb] at e
      refine (I.hok b u e).stay (fun d v hd q => ?_) (fun d q => by rw [up d (ne d _ q).1]; exact q) fun d xs q => by rw [up d (ne d _ q).1]; exact q
      rcases hd with z | z
      · rw [z] at q ⊢
        exact kp b v (ne b u e).1 (ne b u e).2 q
      · exact kp d v (ne d _ z).1 (ne d _ z).2 q
theorem ints_alike : ∀ (xs ys : List Int), alikeAll (xs.map PyData.int) (ys.map PyData.int) = true
  | [], _ => by cases ‹List Int› <;> simp [alikeAll]
  | _ :: _, [] => by simp [alikeAll]
  | x :: xs, y :: ys => by simp [alikeAll, alike, ints_alike xs ys]
theorem ints_depth : ∀ (xs : List Int), PyData.depthAll (xs.map PyData.int) = 0
  | [] => by simp [PyData.depthAll]
  | x :: xs => by simp [PyData.depthAll, PyData.depth, ints_depth xs]
theorem each_take_snoc {R : Value → List Int → Prop} : ∀ {us : List Value} {ks : List (List Int)} {u : Value} {k : List Int}, EachIs R us ks → R u k → EachIs R (us ++ [u]) (ks ++ [k])
  | _, _, _, _, .nil, h => .cons h .nil
  | _, _, _, _, .cons a t, h => .cons a (each_take_snoc t h)
theorem vals_at : ∀ {xs : List V} {us : List Value} {i : Nat} {u : Value}, Vals xs us → us[i]? = some u → ∃ v, xs[i]? = some v ∧ RelV v u
  | _, _, _, _, .nil, h => by simp at h
  | _, _, 0, u, .cons a t, h => by
    have e := Option.some.inj h
    subst e
    exact ⟨_, rfl, a⟩
  | _, _, i + 1, u, .cons a t, h => vals_at t (i := i) h
theorem dp_ints {K : PySem.W.Frag} {H : Hp} : ∀ k : List Int, DpAll K H (k.map V.int) (k.map PyData.int)
  | [] => .nil
  | i :: k => .cons (.int i) (dp_ints k)
theorem vals_each {α : Type} : ∀ {xs : List V} {us : List Value} {bs : List α}, Vals xs us → xs.length = bs.length → EachIs (fun u (b : V × α) => RelV b.1 u) us (xs.zip bs)
  | _, _, [], .nil, _ => .nil
  | _, _, b :: bs, .nil, h => by cases h
  | _, _, [], .cons _ _, h => by cases h
  | _, _, b :: bs, .cons a t, h => .cons a (vals_each t (by simpa using h))
theorem each_zip {α : Type} {R : Value → α → Prop} : ∀ {xs : List V} {us : List Value} {bs : List α}, EachIs R us bs → xs.length = bs.length → EachIs (fun u (b : V × α) => R u b.2) us (xs.zip bs)
  | [], _, _, .nil, _ => .nil
  | _ :: _, _, _, .nil, h => by cases h
  | [], _, _, .cons _ _, h => by cases h
  | x :: xs, _, _, .cons a t, h => .cons a (each_zip t (by simpa using h))
theorem keyI_tree {a : Addr} {fv : Value} {xs : List V} {vs : List Value} {ks : List (List Int)} {P : PySem.Fin → Shared → Prop} (I : L2.Inv X pins σ H s) (ho : s.heap.get? a = some (seqObj "list" vs.toArray 0)) (na : H a = none) (oa : Own X pins a)
    (r : Vals xs vs) (hl : ks.length = xs.length) (hz : vs.length ≤ sizeLine) (hne : ∀ k ∈ ks, k ≠ []) (hu : A.units + 64 < cLine)
    (turn : ∀ (pl : List (Addr × Obj)) (H' : Hp) (s' : Shared) (i : Nat) (v : V) (u : Value) (k : List Int), L2.Inv X (pl ++ pins) σ H' s' → Ex G H H' → xs[i]? = some v → RelV v u → ks[i]? = some k →
      wpAny (model X.prog X.w) A (call fv [u]) (fun w s2 => ∃ H2 t, L2.Inv X (pl ++ pins) σ H2 s2 ∧ Ex G H' H2 ∧ w = .ref t ∧ SqT X.K H2 t (k.map V.int)) (fun _ _ => False) s')
    (fin : ∀ H' s', Ex G H H' → H' a = none → L2.Inv X pins σ (upd H' a (.lst (srtV xs (ks.map kP)))) s' → P (.done (.ret .none)) s') :
    wpAny (model X.prog X.w) A (ksk_tree a fv false) P E s := by
  obtain ⟨e1, ho1⟩ : ∃ e1, (s.heap.update a (Obj.mapSeq fun _ => (#[] : Array Value))).get? a = some (seqObj "list" #[] e1) := ⟨_, get?_update_seq ho fun _ => #[]⟩
  have hrl := r.length
  unfold ksk_tree
  refine wpAny_bind (listItems_at ho rfl ?_)
  refine wpAny_bind (listUpdate_at ho rfl ?_ (by rw [List.size_toArray]; exact hz) (Nat.zero_le _))
  refine wpAny_bind (seqEpoch_at ho1 rfl ?_)
  refine wpAny_bind (wpAny_newTuple ?_ (by show vs.length ≤ _; exact hz))
  refine wpAny_bind (wpAny_newList ?_ (Nat.zero_le _))
  refine wpAny_holding ?_
  -- the state ahead of the first key
  have sa := Heap.SameBut.update s.heap a (Obj.mapSeq fun _ => (#[] : Array Value))
  have Ia : L2.Inv X pins σ H { s with heap := s.heap.update a (Obj.mapSeq fun _ => (#[] : Array Value)), toks := s.toks } := I.turned (it := a) (fun b o hb e => (sa.2 b hb).trans e) na oa.loc (.inr oa.new) oa.cell oa.pin
  generalize hh : s.heap.update a (Obj.mapSeq fun _ => (#[] : Array Value)) = ha at Ia ho1 ⊢
  have It := Ia.kept (t' := s.toks) (h' := ha.push (seqObj "tuple" vs.toArray 0)) fun b u e => Heap.get?_push_of_some _ e
  have hat : (ha.push (seqObj "tuple" vs.toArray 0)).get? a = some (seqObj "list" #[] e1) := Heap.get?_push_of_some _ ho1
  generalize hht : ha.push (seqObj "tuple" vs.toArray 0) = ht at It hat
  have ok := own_fresh It (Nat.le_refl ht.objs.size)
  have nk : H ht.objs.size = none := It.hok.fresh (Nat.le_refl _)
  have hka : ht.objs.size ≠ a := fun e => Nat.lt_irrefl _ (e ▸ Heap.lt_size hat)
  have Ik := It.kept (t' := s.toks) (h' := ht.push (seqObj "list" #[] 0)) fun b u e => Heap.get?_push_of_some _ e
  have I0 : L2.Inv X ([(ht.objs.size, seqObj "list" #[] 0), (a, seqObj "list" #[] e1)] ++ pins) σ H { s with heap := ht.push (seqObj "list" #[] 0), toks := s.toks } := Ik.pins_of fun p hp => by
    rcases List.mem_append.mp hp with hp | hp
    · have hp2 : p = (ht.objs.size, seqObj "list" #[] 0) ∨ p = (a, seqObj "list" #[] e1) := by simpa using hp
      rcases hp2 with e | e
      · subst e
        exact ⟨Heap.get?_push_size _ rfl, nk, ok.loc, ok.fs, fun v z => by cases z⟩
      · subst e
        exact ⟨Heap.get?_push_of_some _ hat, na, oa.loc, oa.fs, fun v z => by cases z⟩
    · exact Ik.pin p (List.mem_append_right _ hp)
  generalize hkS : ht.objs.size = kS at *
  unfold ksk_rest
  refine wpAny_bind (wpAny_rule ?_)
  rw [List.forIn_toArray]
  refine wpAny_bind (ksk_fold (fun i s' => ∃ Hi kA e, L2.Inv X ([(kS, seqObj "list" kA e), (a, seqObj "list" #[] e1)] ++ pins) σ Hi s' ∧ Ex G H Hi ∧ EachIs (fun u k => ∃ t, u = Value.ref t ∧ SqT X.K Hi t (k.map V.int)) kA.toList (ks.take i)) vs 0 _
    ⟨H, #[], 0, I0, Ex.refl H, by rw [List.take_zero]; exact .nil⟩ ?step ?done)
  case step =>
    rintro j x s' hx ⟨Hi, kA, e, Ii, ei, hk⟩
    simp only [Nat.zero_add] at hk ⊢
    have hj : j < vs.length := (List.getElem?_eq_some_iff.mp hx).1
    obtain ⟨k, hkj⟩ : ∃ k, ks[j]? = some k := ⟨_, List.getElem?_eq_getElem (by omega)⟩
    obtain ⟨v, hv, rv⟩ : ∃ v, xs[j]? = some v ∧ RelV v x := vals_at r hx
    have hkl : kA.size ≤ vs.length := by
      have h1 := hk.length
      rw [Array.length_toList, List.length_take] at h1
      omega
    refine wpAny_bind (wpAny_attempt (wpAny_mono (turn _ Hi s' j v x k Ii ei hv rv hkj) (fun w s2 he => ?_) fun _ _ z => z.elim))
    obtain ⟨H2, t, I2, e2, rfl, ht2⟩ := he
    have pk := (I2.pin (kS, seqObj "list" kA e) (List.mem_append_right _ (by simp)))
    have pa := (I2.pin (a, seqObj "list" #[] e1) (List.mem_append_right _ (by simp)))
    have s1 := Heap.SameBut.update s2.heap kS (Obj.mapSeq (·.push (.ref t)))
    obtain ⟨c2, hc2⟩ : ∃ c2, (s2.heap.update kS (Obj.mapSeq (·.push (Value.ref t)))).get? kS = some (seqObj "list" (kA.push (.ref t)) c2) := ⟨_, get?_update_seq pk.1 (·.push (.ref t))⟩
    refine wpAny_bind (listUpdate_at pk.1 rfl ?_ (Nat.le_trans hkl hz) (Nat.le_trans (Nat.le_of_eq (Array.size_push ..)) (Nat.succ_le_succ (Nat.le_trans hkl hz))))
    have I3 : L2.Inv X pins σ H2 s2 := I2.pins_of fun p hp => I2.pin p (List.mem_append_right _ (List.mem_append_right _ hp))
    have I4 : L2.Inv X pins σ H2 { s2 with heap := s2.heap.update kS (Obj.mapSeq (·.push (.ref t))), toks := s2.toks } := I3.turned (it := kS) (fun b o hb z => (s1.2 b hb).trans z) pk.2.1 ok.loc (.inr ok.new) ok.cell ok.pin
    refine wpAny_pure ⟨rfl, H2, kA.push (.ref t), c2, I4.pins_of fun p hp => ?_, ei.trans e2, ?_⟩
    · rcases List.mem_append.mp hp with hp | hp
      · have hp2 : p = (kS, seqObj "list" (kA.push (.ref t)) c2) ∨ p = (a, seqObj "list" #[] e1) := by simpa using hp
        rcases hp2 with z | z
        · subst z
          exact ⟨hc2, pk.2.1, ok.loc, ok.fs, fun v z => by cases z⟩
        · subst z
          exact ⟨(s1.2 a (Ne.symm hka)).trans pa.1, pa.2.1, oa.loc, oa.fs, fun v z => by cases z⟩
      · exact I4.pin p (List.mem_append_right _ hp)
    · have ek : ks.take (j + 1) = ks.take j ++ [k] := by rw [List.take_add_one, hkj]; rfl
      rw [ek, Array.toList_push]
      exact each_take_snoc (each_imp (fun u k ⟨t, z, q⟩ => ⟨t, z, sqt_ex e2 q⟩) hk) ⟨t, rfl, ht2⟩
  case done =>
    rintro s' ⟨Hi, kA, e, Ii, ei, hk⟩
    have e3 : ks.take (0 + vs.length) = ks := List.take_of_length_le (by omega)
    rw [e3] at hk
    have pk := (Ii.pin (kS, seqObj "list" kA e) (List.mem_append_right _ (by simp)))
    have pa := (Ii.pin (a, seqObj "list" #[] e1) (List.mem_append_right _ (by simp)))
    have hsz : kA.size = vs.length := by
      have h1 := hk.length
      rw [Array.length_toList] at h1
      omega
    refine wpAny_bind (listItems_at pk.1 rfl ?_)
    have I3 : L2.Inv X pins σ Hi s' := Ii.pins_of fun p hp => Ii.pin p (List.mem_append_right _ (List.mem_append_right _ hp))
    have hrd : EachIs (fun u d => ∃ as, Reads s'.heap u d as) kA.toList (ks.map kP) := by
      refine each_map (R := fun u d => ∃ as, Reads s'.heap u d as) kP (each_imp (fun u k ⟨t, z, q⟩ => ?_) hk)
      subst z
      exact Dp.reads Ii (kP k) (.ref t) (.ref t) (.tup q (dp_ints k)) rfl
    have hal : AllAlike (ks.map kP) := AllAlike.of fun k k' => by
      unfold kP
      rw [alike]
      exact ints_alike k k'
    have hsk : Sortable (ks.map kP) := .inl fun d hd => by
      obtain ⟨k, hk, rfl⟩ := List.mem_map.mp hd
      match k, hne k hk with
      | i :: k, _ => exact ⟨.int i, k.map .int, rfl⟩
    have hdd : ∀ d ∈ ks.map kP, A.units + d.depth < cLine := fun d hd => by
      obtain ⟨k, _, rfl⟩ := List.mem_map.mp hd
      have : (kP k).depth = 1 := by
        unfold kP
        rw [PyData.depth, ints_depth]
      omega
    have S := SortsAt.data (A := A) (prog := X.prog) (w := X.w) (s := s') hrd hal hsk hdd
    refine keyH_end (κ := dataKind s'.heap (ks.map kP)) (h₁ := s'.heap.hide kS) (fun b o hb z => ?_) (Heap.hide_self _ _) pk.1 pa.1 hka S hsz hz fun h' tk c kp n3 => ?_
    · by_cases hbk : b = kS
      · rw [hbk, Heap.hide_self] at z
        cases z
      · rwa [Heap.hide_ne _ hbk] at z
    · have hxk : xs.length = (ks.map kP).length := by rw [List.length_map, hl]
      have eo : EachIs (fun u (b : V × PyData) => RelV b.1 u) (sortVals (dataKind s'.heap (ks.map kP)) false kA.toList vs) ((xs.zip (ks.map kP)).mergeSort (dataLe false Prod.snd)) := by
        refine keyedOut_each Prod.snd ⟨s'.heap, kA.toList, ?_, ?_, ?_⟩ (vals_each r hxk)
        · rw [zip_snd hxk]; exact hal
        · rw [zip_snd hxk]
        · rw [zip_snd hxk]; exact hrd
      have hv : Vals (srtV xs (ks.map kP)) (sortVals (dataKind s'.heap (ks.map kP)) false kA.toList vs) := each_vals (R := fun _ _ => True) eo
      refine fin Hi _ ei pa.2.1 (inv_adopt (c := c) I3 oa ok pa.2.1 pk.2.1 (fun b o hb hbk z => kp b o hb (by rw [Heap.hide_ne _ hbk]; exact z)) n3 ?_ hv)
      unfold srtV
      rw [List.length_map, List.length_mergeSort, List.length_zip]
      omega
end
end Sw
end

section
set_option Elab.async false
set_option autoImplicit false
set_option linter.all false
set_option maxRecDepth 100000
set_option maxHeartbeats 4000000
namespace Sw
open PySem PySem.Spec PyProof.Rows L2 PySem.W L2
section
variable {X : Cx} {G : Gx} {pins : List (Addr × Obj)} {σ : L2.St} {H : Hp} {s : Shared}
theorem sortedK_run {a f : Addr} {xs : List V} {ks : List (List Int)} {Q : VK} (I : L2.Inv X pins σ H s) (hs : SqL X.K H a xs) (hl : ks.length = xs.length) (hne : ∀ k ∈ ks, k ≠ []) (hu : X.A.units + 80 < cLine)
    (turn : ∀ (pl : List (Addr × Obj)) (H' : Hp) (s' : Shared) (i : Nat) (v : V) (u : Value) (k : List Int), L2.Inv X (pl ++ pins) σ H' s' → Ex G H H' → xs[i]? = some v → RelV v u → ks[i]? = some k →
      wpAny (model X.prog X.w) X.A.in1.in1 (call (.ref f) [u]) (fun w s2 => ∃ H2 t, L2.Inv X (pl ++ pins) σ H2 s2 ∧ Ex G H' H2 ∧ w = .ref t ∧ SqT X.K H2 t (k.map V.int)) (fun _ _ => False) s')
    (q : ∀ H' p, Ex G H H' → H' p = none → Q (.ref p) (upd H' p (.lst (srtV xs (ks.map kP))))) :
    wpAny (model X.prog X.w) X.A (call (.builtin "sorted") [.ref a] [(Str.ofString "key", .ref f)]) (EP X pins σ Q) X.xe s := by
  obtain ⟨its, rv, pl, hz⟩ := I.list hs
  obtain ⟨o, ho, hc, n, hd⟩ := pl.isList
  have hrl := rv.length
  refine sorted_seq (.inl rfl) ho hc hd (by omega) (ksk_s1 _ _) fun h1 hk1 => ?_
  have I1 := I.kept (t' := s.toks) hk1
  have ok := own_fresh I1 (Nat.le_refl h1.objs.size)
  have nk : H h1.objs.size = none := I1.hok.fresh (Nat.le_refl _)
  have I2 := I1.kept (t' := s.toks) (h' := h1.push (seqObj "list" its.toArray 0)) fun b u e => Heap.get?_push_of_some _ e
  refine wpAny_call_entry_kw slot_list_sort ⟨_, Heap.get?_push_size _ rfl, rfl⟩ entry_list_sort ?_ (ksk_l1 _ _)
  rw [ksk_t1]
  refine keyI_tree (G := G) I2 (Heap.get?_push_size _ rfl) nk ok rv hl (by omega) hne (by show X.A.units + 1 + 1 + 64 < cLine; omega) turn fun H' s' e n3 I3 => ⟨.none, rfl, ?_⟩
  exact ⟨.ref h1.objs.size, _, I3, rfl, q H' _ e n3⟩
end
/-- sorted(xs, key=f): F what f promises -/
def bSortKF (G : Gx) (F : FD) : List V → Hp → VK → Prop := fun vs H1 Q => ∃ (B : Addr → Prop) (a : Addr) (xs : List V) (ds : List D) (ks : List (List Int)), vs = [V.ref a] ∧ SqL G.K H1 a xs ∧ G.tb H1 ∧ Alc B H1 ∧ DqL G B H1 xs ds ∧ ks.length = ds.length ∧ (∀ k ∈ ks, k ≠ []) ∧
  (∀ (i : Nat) (d : D) (k : List Int), ds[i]? = some d → ks[i]? = some k → F [d] fun r => r = .tup (k.map D.int)) ∧ ∀ H' p, Ex G H1 H' → H' p = none → Q (.ref p) (upd H' p (.lst (srtV xs (ks.map kP))))
def tSortKF (G : Gx) (F : FD) (tl : TE) : TE := fun σ H Q => tl σ H fun x H1 => bSortKF G F [x] H1 Q
theorem pe_sortKF {X : Cx} {G : Gx} {F : FD} {x y : Str} {kk : Nat} {e : Expr} {tl : TE} {p p2 p3 pos : Pos} (hK : X.K = G.K) (h : Dfn X.prog X.w X.K X.mg X.base x [y] kk (spD G 1 F)) (hr : Room (kk + 4) X.A) (ha : PA X [e] (tCons tl tNil)) (hs : Gl X "sorted") (hsm : X.mg "sorted" = none) (hg : Gl X x) (hd : (x == ("__debug__" : Str)) = false)
    (h1 : backTo pos (starEach [e] X.env) = (false, eval e X.env) :: backTo pos (starEach [] X.env) := by rfl) (hpl : (backTo pos (starEach [e] X.env)).any (·.1) = false := by rfl)
    (hall : (backToKw pos (keywordEach [⟨some (Str.ofString "key"), .Name x p2, p3⟩] X.env)).all (·.1.isSome) = true := by rfl) (hnone : (backToKw pos (keywordEach [⟨some (Str.ofString "key"), .Name x p2, p3⟩] X.env)).any (·.1.isNone) = false := by rfl)
    (hks : (backToKw pos (keywordEach [⟨some (Str.ofString "key"), .Name x p2, p3⟩] X.env)).filterMap (·.1) = [Str.ofString "key"] := by rfl) :
    PE X (.Call (.Name "sorted" p) [e] [⟨some (Str.ofString "key"), .Name x p2, p3⟩] pos) (tSortKF G F tl) := by
  obtain ⟨f, fd, hm, kp, b, FF⟩ := h
  let r : List V → List V → Hp → VK → Prop := fun vs zs H1 Q => zs = [.ref f] ∧ bSortKF G F vs H1 Q
  have hc : CallRK X (.builtin "sorted") [Str.ofString "key"] r := by
    intro pins s σ H vs zs us ws Q I r1 r2 ⟨ez, B, a, xs, ds, ks, ev, hs, tb, al, hq, hl, hne, hF, q⟩
    subst ez ev
    cases r1 with
    | cons ru rn =>
    cases rn
    cases r2 with
    | cons rw rn =>
    cases rn
    rename_i u w
    obtain rfl : u = Value.ref a := ru
    obtain rfl : w = Value.ref f := rw
    refine sortedK_run (G := G) I (by rw [hK]; exact hs) (by rw [hl, hq.length]) hne (by have := hr.un; omega) (fun pl H' s' i v u k I' e hv rv hk => ?_) q
    obtain ⟨d, hd1, hd2⟩ := hq.get' hv
    have sp : spD G 1 F [v] H' (fun w H2 => Ex G H' H2 ∧ ∃ t, w = .ref t ∧ SqT G.K H2 t (k.map V.int)) E0 := by
      refine ⟨B, [d], _, e.t tb, al.mono e, .cons (hd2.mono e) .nil, rfl, hF i d k hd1 hk, fun d' v' H2 hd' e2 q2 => ⟨e2, ?_⟩⟩
      subst hd'
      obtain ⟨t, us, rfl, h3, r3⟩ := dq_tup q2
      rw [dql_ints r3] at h3
      exact ⟨t, rfl, h3⟩
    have e0 := I'.env0
    have room : Room kk X.A.in1.in1 := (hr.mono (show kk + 2 ≤ kk + 4 by omega)).in1.in1
    refine wpAny_call (codeAny_mono (FF.run X.A.in1.in1 X.stack s' H' ⟨[u], []⟩ ([u] ++ []) [v] _ E0 room ⟨e0.frames, e0.mod, e0.bs, e0.bsz, e0.funs, e0.frf, e0.hok, e0.bare⟩ (b s' [u] I'.kIn rfl) (.cons rv .nil) sp) fun r s'' hq2 => ?_)
    cases r with
    | error e => exact hq2.elim
    | ok fl =>
      cases fl with
      | ret w =>
        obtain ⟨v', H2, I2, rv2, e2, t, ev, ht⟩ := I'.after hq2
        subst ev
        obtain rfl : w = Value.ref t := rv2
        exact ⟨H2, t, I2, e2, rfl, by rw [hK]; exact ht⟩
      | next => exact False.elim hq2
      | brk => exact False.elim hq2
      | cont => exact False.elim hq2
  refine ⟨fun pins s σ H Q I h => ?_⟩
  have hkw : PK X [⟨some (Str.ofString "key"), .Name x p2, p3⟩] (tCons (tC (.ref f)) tNil) := pk_cons (pe_glob hg hm (v := .ref f) rfl hd) pk_nil
  refine wpAny_Call_Name_kw (ld_blt I hs hsm boot_sorted ?_ (by decide) (by decide))
  refine PyProof.Rows.callWith_kw (thn (ha.run pos pins s σ H (fun vs HA => bSortKF G F vs HA Q) I h) fun us sA ⟨vs, HA, IA, rA, qA⟩ => thn (hkw.run pos pins sA σ HA (fun zs HB => r vs zs HB Q) IA ⟨rfl, ?_⟩) fun ws sB ⟨zs, HB, IB, rB, qB⟩ => ?_) h1 hpl hall hnone
  · exact qA
  · rw [hks]
    exact hc pins sB σ HB vs zs us ws Q IB rA rB qB
section
variable {S : Sc} {ρ : List Sl} {te : TE}
theorem srtK_rel {G : Gx} {Bh : Addr → Prop} {H : Hp} {xs : List V} {ds : List D} {ks : List (List Int)} (r : DqL G Bh H xs ds) (hl : ks.length = ds.length) :
    DqL G Bh H (srtV xs (ks.map kP)) (((ds.zip ks).mergeSort fun p q => dataLe false kP p.2 q.2).map Prod.fst) := by
  have hx := r.length
  have e1 : srtV xs (ks.map kP) = ((xs.zip (ds.zip ks)).mergeSort fun p q => dataLe false kP p.2.2 q.2.2).map Prod.fst := by
    unfold srtV
    have ez : xs.zip (ks.map kP) = (xs.zip (ds.zip ks)).map fun p => (p.1, kP p.2.2) := by
      have e2 : ks = (ds.zip ks).map Prod.snd := (zip_snd hl.symm).symm
      conv => lhs; rw [e2]
      rw [List.map_map, List.zip_map_right]
      rfl
    have em : (((xs.zip (ds.zip ks)).mergeSort fun p q => dataLe false kP p.2.2 q.2.2).map fun p => (p.1, kP p.2.2)) = ((xs.zip (ds.zip ks)).map fun p => (p.1, kP p.2.2)).mergeSort (dataLe false Prod.snd) :=
      List.map_mergeSort fun a _ b _ => rfl
    rw [ez, ← em, List.map_map]
    rfl
  have e2 : ((ds.zip ks).mergeSort fun p q => dataLe false kP p.2 q.2) = ((xs.zip (ds.zip ks)).mergeSort fun p q => dataLe false kP p.2.2 q.2.2).map Prod.snd := by
    have em : (((xs.zip (ds.zip ks)).mergeSort fun p q => dataLe false kP p.2.2 q.2.2).map Prod.snd) = ((xs.zip (ds.zip ks)).map Prod.snd).mergeSort (fun p q => dataLe false kP p.2 q.2) := List.map_mergeSort fun a _ b _ => rfl
    rw [em, zip_snd (by rw [List.length_zip]; omega)]
  rw [e1, e2, List.map_map]
  have e3 : ∀ zs : List (V × D × List Int), (∀ p ∈ zs, Dq G Bh H p.1 p.2.1) → DqL G Bh H (zs.map Prod.fst) (zs.map (Prod.fst ∘ Prod.snd)) := fun zs => by
    induction zs with
    | nil => intro _; exact .nil
    | cons z zs ih => intro h; exact .cons (h z (by simp)) (ih fun p hp => h p (List.mem_cons_of_mem _ hp))
  refine e3 _ fun p hp => ?_
  have hp2 := (List.mergeSort_perm _ _).mem_iff.mp hp
  have e4 : xs.zip ds = (xs.zip (ds.zip ks)).map fun p => (p.1, p.2.1) := by
    have e5 : ds = (ds.zip ks).map Prod.fst := (List.map_fst_zip (by omega)).symm
    conv => lhs; rw [e5]
    rw [List.zip_map_right]
    rfl
  have hm : (p.1, p.2.1) ∈ xs.zip ds := by
    rw [e4]
    exact List.mem_map.mpr ⟨p, hp2, rfl⟩
  exact dql_zip r _ hm
/-- sorted(xs, key=f): the items by rows of ints -/
theorem wn_sortKF {α : Type} {F : FD} {Q : List D → Prop} (h : WE S te ρ fun x => ∃ (zs : List α) (f : α → D) (k : α → List Int), x = .lst (zs.map f) ∧ (∀ z ∈ zs, k z ≠ [] ∧ F [f z] fun r => r = .tup ((k z).map D.int)) ∧ Q ((zs.mergeSort fun a b => dataLe false kP (k a) (k b)).map f)) : WN S (tSortKF S.G F te) ρ Q := fun σ H R Qv q =>
  h σ H R _ fun v H1 x e1 q1 ⟨zs, f, k, ex, hz, hq⟩ => by
    subst ex
    obtain ⟨a, xs, rfl, h1, nb, r⟩ := dq_lst q1
    refine ⟨_, a, xs, zs.map f, zs.map k, rfl, SqL.of h1, e1.t R.tb, R.alc.mono e1, r, by rw [List.length_map, List.length_map], fun c hc => ?_, fun i d c hd hc => ?_, fun H' p e2 hp => ?_⟩
    · obtain ⟨z, hz2, rfl⟩ := List.mem_map.mp hc
      exact (hz z hz2).1
    · rw [List.getElem?_map] at hd hc
      cases ez : zs[i]? with
      | none => rw [ez] at hd; cases hd
      | some z =>
        rw [ez] at hd hc
        cases hd
        cases hc
        exact (hz z (List.mem_of_getElem? ez)).2
    · have ed : (((zs.map f).zip (zs.map k)).mergeSort fun p q => dataLe false kP p.2 q.2).map Prod.fst = (zs.mergeSort fun a b => dataLe false kP (k a) (k b)).map f := by
        have e5 : (zs.map f).zip (zs.map k) = zs.map fun z => (f z, k z) := by
          rw [List.zip_map']
        have em : ((zs.mergeSort fun a b => dataLe false kP (k a) (k b)).map fun z => (f z, k z)) = (zs.map fun z => (f z, k z)).mergeSort (fun p q => dataLe false kP p.2 q.2) := List.map_mergeSort fun a _ b _ => rfl
        rw [e5, ← em, List.map_map]
        rfl
      have rr := srtK_rel (r.mono e2) (ks := zs.map k) (by rw [List.length_map, List.length_map])
      rw [ed] at rr
      exact q p _ _ _ (nf (e1.trans e2) hp) ((e1.trans e2).trans (Ex.new hp)) upd_same ((rr.fresh hp).mono (Ex.new hp)) hq
end
end Sw
end

section
set_option Elab.async false
set_option autoImplicit false
set_option linter.all false
set_option maxRecDepth 100000
set_option maxHeartbeats 4000000
namespace Sw
open PySem PySem.Spec PyProof.Rows L2 PySem.W LamX
/-- the function object of a lambda that captures nothing -/
abbrev lamO (qual : Str) (params : Arguments) (body : Expr) (scope : Scope) (pm : Value) (c' : Addr) (ctv : Value) : Obj := kla_obj "<lambda>" qual params body scope [] pm c' ctv
section
variable {X : Cx} {G : Gx} {pins : List (Addr × Obj)} {σ : L2.St} {H : Hp} {s : Shared}
/-- the lambda is made; its code object is new, or stands in the table -/
theorem lam_mk {c P : Addr} {q : Str} {params : Arguments} {body : Expr} {scope : Scope} {pos : Pos} {Q : Value → Shared → Prop} (hG : ∀ H, G.tb H ↔ TabS H P q) (I : L2.Inv X pins σ H s) (TB : TabB X.base X.mg c P) (hcode : X.env.code = .ref c)
    (hq : X.env.qual ++ "<lambda>" = q) (hT : TabS H P q) (hdef : defaultsOf params X.env = ([], [])) (hfr : ∀ y ∈ scope.names, y.2 ≠ .free) (hcl : cloFrom X.env.cells scope.names [] = [])
    (h : ∀ (f c' : Addr) (pm ctv : Value) (H1 : Hp) (s' : Shared), L2.Inv X pins σ H1 s' → Ex G H H1 → Own X pins f → H1 f = none → s'.heap.get? f = some (lamO q params body scope pm c' ctv) → H1 c' = some (CodeO c' q) → Q (.ref f) s') :
    wpAny (model X.prog X.w) X.A (eval (.Lambda params body scope pos) X.env) Q X.xe s := by
  obtain ⟨ps, hP, tr, am⟩ := id hT
  have own : ∀ {f : Addr}, s.heap.objs.size ≤ f → Own X pins f := fun hf => own_fresh I hf
  refine kla_eval hdef ?_
  have hbP : s.heap.BuiltinsAt X.mg P := TB.bm.keeps I.bk
  have gP : s.heap.get? P = some { cls := .none, data := .fields ps } := I.hok P _ hP
  have nofree : ∀ y ∈ scope.names, y.2 = .free → ∃ c, X.env.cells.lookup y.1 = some c := fun y hy e => absurd e (hfr y hy)
  cases hc : codeAmong pos ps.toList with
  | some cv =>
    obtain ⟨c', rfl, hco⟩ := am pos cv hc
    refine kla_makeFunctionHit (mg := X.mg) (c := c) (P := P) (ps := ps) (closure_ok nofree) I.ok.glob (I.mod.glob.keeps I.bk) hcode (TB.code.keeps I.bk) gP tr hc hbP fun ctv h' tk hx hsz => ?_
    rw [hcl, hq]
    exact h _ c' _ ctv H _ (I.kept fun b o e => Heap.get?_push_of_some _ (hx b o e)) (Ex.refl H) (own hsz) (I.hok.fresh hsz) (Heap.get?_push_size _ rfl) hco
  | none =>
    refine kla_makeFunction (mg := X.mg) (c := c) (P := P) (ps := ps) (closure_ok nofree) I.ok.glob (I.mod.glob.keeps I.bk) hcode (TB.code.keeps I.bk) gP tr hc TB.gP hbP fun c' ctv h' tk hx hge hlt hrec htb => ?_
    rw [hcl, hq]
    rw [hq] at hrec
    obtain ⟨_, oc, vs, t, z, hoc, hd, hv⟩ := hrec
    cases z
    have nC : H c' = none := I.hok.fresh hge
    have hsz : s.heap.objs.size ≤ h'.objs.size := Nat.le_trans hge (Nat.le_of_lt hlt)
    have J := inv_table (q := q) (t' := tk) (more := #[rawInt pos.line, rawInt pos.col, .ref c']) (h' := h'.push (lamO q params body scope ((X.mg "__name__").getD .none) c' ctv)) I hP
      (fun b o hb e => Heap.get?_push_of_some _ (hx b o hb e)) (Heap.get?_push_of_some _ htb) hge ⟨oc, vs, t, Heap.get?_push_of_some _ hoc, hd, hv⟩
    have nPc : P ≠ c' := fun e => by rw [e, nC] at hP; cases hP
    have keep : ∀ b o, H b = some o → nt o → upd (upd H P (.tbl (ps ++ #[rawInt pos.line, rawInt pos.col, .ref c']))) c' (CodeO c' q) b = some o := fun b o e n => by
      have n1 : b ≠ c' := fun z => by rw [z, nC] at e; cases e
      have n2 : b ≠ P := fun z => by
        rw [z, hP] at e
        cases e
        exact n
      rw [upd_ne n1, upd_ne n2]
      exact e
    have eL : (ps ++ #[rawInt pos.line, rawInt pos.col, .ref c']).toList = ps.toList ++ [rawInt pos.line, rawInt pos.col, .ref c'] := by simp
    have T2 : TabS (upd (upd H P (.tbl (ps ++ #[rawInt pos.line, rawInt pos.col, .ref c']))) c' (CodeO c' q)) P q := by
      refine ⟨_, by rw [upd_ne nPc, upd_same], by rw [eL]; exact TriplesOk_snoc _ _ _ _ tr, fun p' cv hcv => ?_⟩
      rw [eL] at hcv
      rcases among_app _ tr hcv with z | z
      · obtain ⟨c0, a1, a2⟩ := am p' cv z
        exact ⟨c0, a1, keep _ _ a2 trivial⟩
      · exact ⟨c', z, upd_same⟩
    refine h h'.objs.size c' _ ctv _ _ J ⟨keep, fun b hb => ?_, fun _ => (hG _).mpr T2⟩ (own hsz) ?_ (Heap.get?_push_size _ rfl) upd_same
    · have n1 : b ≠ c' := fun z => by rw [z, upd_same] at hb; cases hb
      rw [upd_ne n1] at hb
      have n2 : b ≠ P := fun z => by rw [z, upd_same] at hb; cases hb
      rwa [upd_ne n2] at hb
    · have n1 : h'.objs.size ≠ c' := Nat.ne_of_gt hlt
      have n2 : h'.objs.size ≠ P := Nat.ne_of_gt (Nat.lt_of_lt_of_le (Heap.lt_size gP) hsz)
      rw [upd_ne n1, upd_ne n2]
      exact I.hok.fresh hsz
end
/-- the lambda called with one argument: its body by a reading -/
theorem lam_call {P : Program} {w : World} {K : PySem.W.Frag} {mg : Str → Option Value} {base : Heap} {q y : Str} {N : List Str} {params : Arguments} {body : Expr} {scope : Scope} {pm ctv : Value} {c' f : Addr} {k : Nat} {te : TE}
    (S : FnScope N [y] scope) (hbind : ∀ u, bindArgs (kla_fn "<lambda>" q params body scope [] pm (.ref c') ctv) ⟨[u], []⟩ = pure [(y, u)])
    (hbody : ∀ (A : Around) (outer : List Env) (s : Shared) (H : Hp), Room k (A.deeper (envOfC q scope s.heap.objs.size f (.ref c'))) → PE (cxOf CX0 P w K mg base N q scope f (.ref c') A outer s H E0) body te)
    (A : Around) (outer : List Env) (s : Shared) (H : Hp) (u : Value) (v : V) (Q : VK) (hr : Room (k + 1) A) (e0 : Env0 P w K mg base A outer s H) (hf : s.heap.get? f = some (lamO q params body scope pm c' ctv)) (hc : H c' = some (CodeO c' q)) (rv : RelV v u)
    (ht : te (L2.start N [v]) H Q) : codeAny (model P w) A (.call (.ref f) ⟨[u], []⟩) (CR CX0 outer P w H s Q E0) s := by
  obtain ⟨⟨oc, vs, t, hoc, hdc, hvc⟩, _, _⟩ := e0.hok c' _ hc
  have lim : s.heap.NoLimit := e0.mod.nolimit.keeps fun b o e => (e0.bs b o e).1
  refine kla_callFunE hr.depth hf rfl S.co S.gen rfl ⟨c', oc, vs, t, rfl, hoc, hdc, hvc⟩ ?_
  rw [hbind]
  have hkind : ∀ z ∈ ([y] : List Str).zip [u], scope.names.lookup z.1 = some .local ∨ (scope.names.lookup z.1 = some .cell ∧ ((cellsFrom (s.heap.objs.size + 1) scope.names []).lookup z.1).isSome = true) := fun ⟨n, v⟩ hy => by
    rcases S.par n (List.of_mem_zip hy).1 with q | q
    · exact .inl q
    · exact .inr ⟨q, cellsFrom_some _ _ _ (.inl q)⟩
  refine wpAny_pure (wpAny_newFunctionEnv_cells S.kind hkind fun env he s1 x => ?_)
  subst he
  refine ⟨lim.keeps x.toInCall.keep, ?_⟩
  have J : L2.Inv (cxOf CX0 P w K mg base N q scope f (.ref c') A outer s H E0) [] (L2.start N [v]) H s1 := inv_start (us := [u]) S hr.hd e0 rfl (.cons rv .nil) x
  refine kla_codeExpr (wpAny_mono ((hbody A outer s H (hr.deeper _)).run [] s1 (L2.start N [v]) H Q J ht) (fun v' s' hq => ?_) fun e s' hq => hq)
  obtain ⟨w', H', J', r2, q2⟩ := hq
  exact ⟨w', H', J'.os, J'.bare, J'.base, J'.hok, r2, q2⟩
/-- sorted(xs, key=lambda y: ..): te the lambda's body -/
def bSortKL (G : Gx) (te : TE) (N : List Str) : List V → Hp → VK → Prop := fun vs H1 Q => ∃ (B : Addr → Prop) (a : Addr) (xs : List V) (ds : List D) (ks : List (List Int)), vs = [V.ref a] ∧ SqL G.K H1 a xs ∧ G.tb H1 ∧ Alc B H1 ∧ DqL G B H1 xs ds ∧ ks.length = ds.length ∧ (∀ k ∈ ks, k ≠ []) ∧
  (∀ (i : Nat) (d : D) (k : List Int), ds[i]? = some d → ks[i]? = some k → ∀ H' v, Ex G H1 H' → Dq G B H' v d → te (L2.start N [v]) H' fun w H2 => Ex G H' H2 ∧ ∃ t, w = .ref t ∧ SqT G.K H2 t (k.map V.int)) ∧ ∀ H' p, Ex G H1 H' → H' p = none → Q (.ref p) (upd H' p (.lst (srtV xs (ks.map kP))))
def tSortKL (G : Gx) (te : TE) (N : List Str) (tl : TE) : TE := fun σ H Q => tl σ H fun x H1 => bSortKL G te N [x] H1 Q
theorem pe_sortKL {X : Cx} {G : Gx} {c P : Addr} {q y : Str} {N : List Str} {params : Arguments} {body : Expr} {scope : Scope} {k : Nat} {e : Expr} {tl te : TE} {p p2 p3 pos : Pos} (hK : X.K = G.K) (hG : ∀ H, G.tb H ↔ TabS H P q) (TB : TabB X.base X.mg c P) (hcode : X.env.code = .ref c)
    (hq : X.env.qual ++ "<lambda>" = q) (hdef : defaultsOf params X.env = ([], [])) (hfr : ∀ y ∈ scope.names, y.2 ≠ .free) (hcl : cloFrom X.env.cells scope.names [] = []) (S : FnScope N [y] scope)
    (hbind : ∀ pm c' ctv u, bindArgs (kla_fn "<lambda>" q params body scope [] pm (.ref c') ctv) ⟨[u], []⟩ = pure [(y, u)])
    (hbody : ∀ (f c' : Addr) (A : Around) (outer : List Env) (s : Shared) (H : Hp), Room k (A.deeper (envOfC q scope s.heap.objs.size f (.ref c'))) → PE (cxOf CX0 X.prog X.w X.K X.mg X.base N q scope f (.ref c') A outer s H E0) body te)
    (hr : Room (k + 5) X.A) (ha : PA X [e] (tCons tl tNil)) (hs : Gl X "sorted") (hsm : X.mg "sorted" = none)
    (h1 : backTo pos (starEach [e] X.env) = (false, eval e X.env) :: backTo pos (starEach [] X.env) := by rfl) (hpl : (backTo pos (starEach [e] X.env)).any (·.1) = false := by rfl) :
    PE X (.Call (.Name "sorted" p) [e] [⟨some (Str.ofString "key"), .Lambda params body scope p2, p3⟩] pos) (tSortKL G te N tl) := by
  refine ⟨fun pins s σ H Q I h => ?_⟩
  refine wpAny_Call_Name_kw (ld_blt I hs hsm boot_sorted ?_ (by decide) (by decide))
  refine PyProof.Rows.callWith_kw (thn (ha.run pos pins s σ H (fun vs HA => bSortKL G te N vs HA Q) I h) fun us sA ⟨vs, HA, IA, rA, B, a, xs, ds, ks, ev, hsq, tb, al, dq, hl, hne, hF, hQ⟩ => ?_) h1 hpl rfl rfl
  subst ev
  obtain ⟨u, rfl, ru⟩ := vals1 rA
  obtain rfl : u = Value.ref a := ru
  show wpAny _ _ (evalAll [do let v ← eval (.Lambda params body scope p2) X.env; standAt pos; pure v]) _ _ sA
  refine wpAny_evalAll_cons (wpAny_bind (lam_mk hG IA TB hcode hq ((hG _).mp tb) hdef hfr hcl fun f c' pm ctv HB sB IB eB of nf' hf hc => wpAny_bind (wpAny_standAt (wpAny_pure (wpAny_evalAll_nil ?_)))))
  -- the function's object is pinned while the keys are made
  have IP : L2.Inv X ((f, lamO q params body scope pm c' ctv) :: pins) σ HB sB := IB.pins_of fun r hr2 => by
    rcases List.mem_cons.mp hr2 with z | z
    · subst z
      exact ⟨hf, nf', of.loc, of.fs, fun v z => by cases z⟩
    · exact IB.pin r (List.mem_append_right _ z)
  have dqB := dq.mono eB
  refine wpAny_mono (sortedK_run (G := G) (Q := Q) IP (sql_ex eB (by rw [hK]; exact hsq)) (by rw [hl, dqB.length]) hne (by have := hr.un; omega) (fun pl H' s' i v u k' I' e' hv rv hk => ?_) fun H' p' e' n' => hQ H' p' (eB.trans e') n') (fun v s2 ⟨x2, H2, I2, r2, q2⟩ => ⟨x2, H2, I2.pins_of fun r hr2 => I2.pin r (List.mem_append_right _ (List.mem_cons_of_mem _ hr2)), r2, q2⟩) fun _ _ z => z
  obtain ⟨d, hd1, hd2⟩ := dqB.get' hv
  have hte := hF i d k' hd1 hk H' v (eB.trans e') (hd2.mono e')
  have e0 := I'.env0
  have room : Room (k + 1) X.A.in1.in1 := (hr.mono (show k + 3 ≤ k + 5 by omega)).in1.in1
  have hf' : s'.heap.get? f = some (lamO q params body scope pm c' ctv) := (I'.pin (f, lamO q params body scope pm c' ctv) (List.mem_append_right _ (List.mem_append_right _ (by simp)))).1
  refine wpAny_call (codeAny_mono (lam_call S (hbind pm c' ctv) (hbody f c') X.A.in1.in1 X.stack s' H' u v _ room ⟨e0.frames, e0.mod, e0.bs, e0.bsz, e0.funs, e0.frf, e0.hok, e0.bare⟩ hf' (e'.at hc) rv hte) fun r s'' hq2 => ?_)
  cases r with
  | error e => exact hq2.elim
  | ok fl =>
    cases fl with
    | ret w =>
      obtain ⟨v', H2, I2, rv2, e2, t, ev, ht⟩ := I'.after hq2
      subst ev
      obtain rfl : w = Value.ref t := rv2
      exact ⟨H2, t, I2, e2, rfl, by rw [hK]; exact ht⟩
    | next => exact False.elim hq2
    | brk => exact False.elim hq2
    | cont => exact False.elim hq2
where
  sql_ex {G : Gx} {K : PySem.W.Frag} {H H' : Hp} {a : Addr} {xs : List V} (e : Ex G H H') (h : SqL K H a xs) : SqL K H' a xs := by
    rcases h with (h | ⟨o, h⟩) | h
    · exact .inl (.inl (e.at h))
    · exact .inl (.inr ⟨o, e.at h⟩)
    · exact .inr h
/-- .. told of data -/
theorem wn_sortKL {S : Sc} {ρ : List Sl} {te tl : TE} {N : List Str} {α : Type} {Q : List D → Prop} (hN : 1 ≤ N.length) (h : WE S tl ρ fun x => ∃ (zs : List α) (f : α → D) (k : α → List Int), x = .lst (zs.map f) ∧
    (∀ z ∈ zs, k z ≠ [] ∧ ∀ B H0, WE ⟨S.G, B, H0⟩ te (ent N.length [f z]) fun r => r = .tup ((k z).map D.int)) ∧ Q ((zs.mergeSort fun a b => dataLe false kP (k a) (k b)).map f)) : WN S (tSortKL S.G te N tl) ρ Q := fun σ H R Qv q =>
  h σ H R _ fun v H1 x e1 q1 ⟨zs, f, k, ex, hz, hq⟩ => by
    subst ex
    obtain ⟨a, xs, rfl, h1, nb, r⟩ := dq_lst q1
    refine ⟨_, a, xs, zs.map f, zs.map k, rfl, SqL.of h1, e1.t R.tb, R.alc.mono e1, r, by rw [List.length_map, List.length_map], fun c hc => ?_, fun i d c hd hc H' v e2 hv => ?_, fun H' p e2 hp => ?_⟩
    · obtain ⟨z, hz2, rfl⟩ := List.mem_map.mp hc
      exact (hz z hz2).1
    · rw [List.getElem?_map] at hd hc
      cases ez : zs[i]? with
      | none => rw [ez] at hd; cases hd
      | some z =>
        rw [ez] at hd hc
        cases hd
        cases hc
        have al := (R.alc.mono e1).mono e2
        refine (hz z (List.mem_of_getElem? ez)).2 _ H' _ H' (rho_ent (N := N) (e2.t (e1.t R.tb)) al (.cons hv .nil) hN) _ fun w H2 dw e3 qw hw => ⟨e3, ?_⟩
        subst hw
        obtain ⟨t, us, rfl, h3, r3⟩ := dq_tup qw
        rw [dql_ints r3] at h3
        exact ⟨t, rfl, h3⟩
    · have ed : (((zs.map f).zip (zs.map k)).mergeSort fun p q => dataLe false kP p.2 q.2).map Prod.fst = (zs.mergeSort fun a b => dataLe false kP (k a) (k b)).map f := by
        have e5 : (zs.map f).zip (zs.map k) = zs.map fun z => (f z, k z) := by
          rw [List.zip_map']
        have em : ((zs.mergeSort fun a b => dataLe false kP (k a) (k b)).map fun z => (f z, k z)) = (zs.map fun z => (f z, k z)).mergeSort (fun p q => dataLe false kP p.2 q.2) := List.map_mergeSort fun a _ b _ => rfl
        rw [e5, ← em, List.map_map]
        rfl
      have rr := srtK_rel (r.mono e2) (ks := zs.map k) (by rw [List.length_map, List.length_map])
      rw [ed] at rr
      exact q p _ _ _ (nf (e1.trans e2) hp) ((e1.trans e2).trans (Ex.new hp)) upd_same ((rr.fresh hp).mono (Ex.new hp)) hq
end Sw
end

section
set_option Elab.async false
set_option autoImplicit false
set_option linter.all false
set_option maxRecDepth 100000
set_option maxHeartbeats 4000000
namespace Sw
open PySem PySem.Spec PyProof.Rows L2 PySem.W
section
variable {M : Model} {A : Around} {E : Value → Shared → Prop} {s : Shared}
/-- a call with a starred argument among others, and keywords -/
theorem starred_kw {K : Frag} {f : Value} {pos : Pos} {Q : Value → Shared → Prop} {x : Sem Value} {rest : List (Bool × Sem Value)} {kws : List (Option Str × Sem Value)} (hst : rest.any (·.1) = true) (hk : keepIn K f = true) (hall : kws.all (·.1.isSome) = true)
    (h : wpAny M A (spliced ((false, x) :: rest)) (fun vs s₁ => wpAny M A (evalAll (kws.map (·.2))) (fun ks s₂ => K.In s₂.heap ∧ wpAny M A (call f vs ((kws.filterMap (·.1)).zip ks)) Q E s₂) E s₁) E s) :
    wpAny M A (callWith pos f [] ((false, x) :: rest) kws) Q E s := by
  unfold callWith
  refine wpAny_bind (wpAny_holding (evalArgs_kw hall (wpAny_mono h (fun vs s1 h1 => wpAny_mono h1 (fun ks s2 h2 => wpAny_bind (wpAny_standAt ?_)) fun _ _ z => z) fun _ _ z => z)))
  obtain ⟨k, hk', L⟩ := keeps_K (M := M) hk _ h2.1
  have he : (((false, x) :: rest).any (·.1) || kws.any (·.1.isNone)) = true := by
    rw [List.any_cons, hst] <;> rfl
  simp only [he]
  refine wpAny_bind (L.here ?_)
  have fin : ∀ {t : Sem Value}, wpAny M A t Q E s2 → wpAny M A (t >>= fun r => holding [r] point >>= fun _ => pure r) Q E s2 :=
    fun ht => wpAny_bind (wpAny_mono ht (fun r s3 hr => wpAny_bind (wpAny_holding (wpAny_point (wpAny_pure hr)))) fun _ _ z => z)
  have mk : ∀ m : Value, wpAny M A (callMarked m f ([] ++ vs) ((kws.filterMap (·.1)).zip ks)) Q E s2 := fun m => by
    unfold callMarked
    exact Calls.wpAny_keep h2.2
  rcases hk' with rfl | rfl | rfl <;> dsimp only <;> first | exact fin (mk _) | exact fin (wpAny_operating h2.2)
end
/-- a def with a star parameter behind n others, keywords given: what is left over is a new tuple -/
theorem run_starK {P : Program} {w : World} {K : Frag} {mg : Str → Option Value} {base : Heap} {k : Nat} {f : Addr} {name qual pv : Str} {params : Arguments} {body : List Stmt} {scope : Scope} {dV kV doc pm cdv ct oc : Value} {an od : Option Addr} {osl : Array (Option Value)} {N ps ks : List Str} {sp : Sp}
    (lk : K.lookup f = some ⟨oc, od, .func (fnOf name qual params body scope dV kV doc pm an cdv ct), osl⟩) (hcd : codeIn K cdv qual = true) (S : FnScope N (ps ++ [pv]) scope)
    (hb : ∀ us rest ws : List Value, us.length + ks.length = ps.length → ws.length = ks.length → bindArgs (fnOf name qual params body scope dV kV doc pm an cdv ct) ⟨us ++ rest, ks.zip ws⟩ = (newTuple rest >>= fun t => pure (ps.zip (us ++ ws) ++ [(pv, t)])))
    (hbody : ∀ (A : Around) (outer : List Env) (s : Shared) (H : Hp) (vs : List V) (Q : VK), Room k (A.deeper (envOfC qual scope s.heap.objs.size f cdv)) → sp vs H Q E0 →
      ∃ t, PSs (cxOf CX0 P w K mg base N qual scope f cdv A outer s H E0) body t ∧ t { nx := fun _ H' => Q .non H', rt := Q } (L2.start N vs) H)
    (A : Around) (outer : List Env) (s : Shared) (H : Hp) (u1 u2 ws : List Value) (v1 v2 zs : List V) (Q : VK) (hr : Room (k + 1) A) (e0 : Env0 P w K mg base A outer s H) (r1 : Vals v1 u1) (r2 : Vals v2 u2) (r3 : Vals zs ws) (l1 : u1.length + ks.length = ps.length) (l3 : ws.length = ks.length)
    (hz : v2.length ≤ sizeLine) (hsp : ∀ p, H p = none → sp (v1 ++ zs ++ [V.ref p]) (upd H p (.tup v2)) Q E0) : codeAny (model P w) A (.call (.ref f) ⟨u1 ++ u2, ks.zip ws⟩) (CR CX0 outer P w H s Q E0) s := by
  have hn : H s.heap.objs.size = none := e0.hok.fresh (Nat.le_refl _)
  have lu2 : u2.length ≤ sizeLine := by rw [← r2.length]; exact hz
  have r13 := r1.append r3
  have l13 : (v1 ++ zs).length = ps.length := by
    rw [r13.length, List.length_append, l3]
    exact l1
  refine StX.run_bnd lk hcd S hr e0 (G := fun xs H2 => ∃ p, H p = none ∧ xs = v1 ++ zs ++ [V.ref p] ∧ H2 = upd H p (.tup v2)) (fun A' Ex' Q' h => ?_) fun s2 H2 xs ⟨p, hp, ex, eH⟩ hr' => ?_
  · rw [hb u1 u2 ws l1 l3]
    refine wpAny_bind (wpAny_newTuple (wpAny_pure ?_) lu2)
    have new : ObjOk P w (upd H s.heap.objs.size (.tup v2)) (s.heap.push ({ cls := .type "tuple", data := .seq u2.toArray } : Obj)) s.heap.objs.size (.tup v2) := ⟨hz, u2, r2, ⟨_, Heap.get?_push_size _ rfl, rfl, _, rfl⟩⟩
    have un := StX.un_laid (fs := frs outer) (s := s) (o := ({ cls := .type "tuple", data := .seq u2.toArray } : Obj)) (u := .tup v2) hn
    have z := h _ _ (v1 ++ zs ++ [V.ref s.heap.objs.size]) (u1 ++ ws ++ [Value.ref s.heap.objs.size]) (StX.env0_laid e0 new) un rfl (fun e s' z => z) (r13.append (.cons rfl .nil)) (by rw [List.length_append (as := v1 ++ zs), l13, List.length_append] <;> rfl) ⟨_, hn, rfl, rfl⟩
    have l13' : ps.length = (u1 ++ ws).length := by rw [List.length_append, l3, l1]
    rw [List.zip_append l13'] at z
    exact z
  · subst ex eH
    exact hbody A outer s2 _ _ Q hr' (hsp p hp)
/-- cls(a, b, .., *c, k=..): a new instance of C -/
def tMakeSK (C : Addr) (n m : Nat) (sp : Sp) (tf : TE) (t tk : TA) : TE := fun σ H Q => tf σ H fun y H0 => y = .ref C ∧ t σ H0 fun vs H1 => tk σ H1 fun zs H2 => ∃ v1 v2, vs = v1 ++ v2 ∧ v1.length = n ∧ zs.length = m ∧ v2.length ≤ sizeLine ∧
  ∀ x dx p, H2 x = none → H2 dx = none → dx ≠ x → upd (upd H2 dx (.own x)) x (.ins C dx []) p = none → sp (V.ref x :: v1 ++ zs ++ [V.ref p]) (upd (upd (upd H2 dx (.own x)) x (.ins C dx [])) p (.tup v2)) (fun v H3 => v = .non ∧ Q (.ref x) H3) E0
theorem pe_makeSK {X : Cx} {C f : Addr} {k n : Nat} {name qual pv x : Str} {params : Arguments} {body : List Stmt} {scope : Scope} {dV kV doc pm cdv ct oc : Value} {an od : Option Addr} {osl : Array (Option Value)} {N ps ks : List Str} {sp : Sp} {e : Expr} {es : List Expr} {kws : List Keyword} {tf : TE} {t tk : TA} {p pos : Pos}
    (Mk : L2.Mk X.K C f) (lk : X.K.lookup f = some ⟨oc, od, .func (fnOf name qual params body scope dV kV doc pm an cdv ct), osl⟩) (hcd : codeIn X.K cdv qual = true) (S : FnScope N (ps ++ [pv]) scope)
    (hb : ∀ us rest ws : List Value, us.length + ks.length = ps.length → ws.length = ks.length → bindArgs (fnOf name qual params body scope dV kV doc pm an cdv ct) ⟨us ++ rest, ks.zip ws⟩ = (newTuple rest >>= fun t => pure (ps.zip (us ++ ws) ++ [(pv, t)])))
    (hbody : ∀ (A : Around) (outer : List Env) (s : Shared) (H : Hp) (vs : List V) (Q : VK), Room k (A.deeper (envOfC qual scope s.heap.objs.size f cdv)) → sp vs H Q E0 →
      ∃ t, PSs (cxOf CX0 X.prog X.w X.K X.mg X.base N qual scope f cdv A outer s H E0) body t ∧ t { nx := fun _ H' => Q .non H', rt := Q } (L2.start N vs) H)
    (hn : n + 1 + ks.length = ps.length) (hr : Room (k + 2) X.A) (hf : PE X (.Name x p) tf) (ha : PA X (e :: es) t) (hkw : PK X kws tk)
    (he : backTo pos (starEach (e :: es) X.env) = (false, eval e X.env) :: backTo pos (starEach es X.env) := by rfl) (hst : (backTo pos (starEach es X.env)).any (·.1) = true := by rfl)
    (hall : (backToKw pos (keywordEach kws X.env)).all (·.1.isSome) = true := by rfl) (hks : (backToKw pos (keywordEach kws X.env)).filterMap (·.1) = ks := by rfl) :
    PE X (.Call (.Name x p) (e :: es) kws pos) (tMakeSK C n ks.length sp tf t tk) := by
  refine ⟨fun pins s σ H Q I h => ?_⟩
  refine wpAny_Call_Name_kw (thn (hf.run pins s σ H _ I h) fun u s0 ⟨y, H0, I0, r0, ey, q0⟩ => ?_)
  subst ey
  obtain rfl : u = Value.ref C := r0
  rw [he]
  refine starred_kw (K := X.K) hst Mk.kp hall ?_
  have ha0 := ha.run pos pins s0 σ H0 _ I0 q0
  rw [he] at ha0
  refine thn ha0 fun us s1 ⟨vs, H1, I1, r1, q1⟩ => thn (hkw.run pos pins s1 σ H1 _ I1 q1) fun ws s2 ⟨zs, H2, I2, r2, v1, v2, ev, l1, l2, hz, q2⟩ => ⟨I2.kIn, ?_⟩
  rw [hks]
  subst ev
  obtain ⟨u1, u2, eu, rv1, rv2⟩ := StX.vals_split r1
  subst eu
  have hq := fun p => q2 (s2.heap.objs.size + 1) s2.heap.objs.size p (I2.hok.fresh (Nat.le_succ _)) (I2.hok.fresh (Nat.le_refl _)) (Nat.ne_of_lt (Nat.lt_succ_self _))
  have I3 := Inv.made (C := C) I2
  have lw : ws.length = ks.length := by rw [← r2.length]; exact l2
  have lu : u1.length = n := by rw [← rv1.length]; exact l1
  refine wpAny_call (make_map (f := f) I2.kIn Mk.makes Mk.init (beq_iff_eq.mp Mk.fn) (codeAny_mono (run_starK (ks := ks) lk hcd S hb hbody _ X.stack _ _ (Value.ref (s2.heap.objs.size + 1) :: u1) u2 ws (V.ref (s2.heap.objs.size + 1) :: v1) v2 zs _ (hr.make C (u1 ++ u2) (ks.zip ws))
    (I3.env0.make C (u1 ++ u2) (ks.zip ws)) (.cons rfl rv1) rv2 r2 (by rw [List.length_cons, lu]; exact hn) lw hz hq) fun r s' hq' => ?_))
  cases r with
  | error e => exact hq'.elim
  | ok fl =>
    cases fl with
    | ret u =>
      obtain ⟨v, H', I4, rv, ev, q3⟩ := I3.after hq'
      subst ev
      exact ⟨rv, ⟨V.ref (s2.heap.objs.size + 1), H', I4, rfl, q3⟩⟩
    | next => exact False.elim hq'
    | brk => exact False.elim hq'
    | cont => exact False.elim hq'
/-- C.m(a, .., k=..), m a classmethod -/
def tCMethK (C : Addr) (n m : Nat) (sp : Sp) (ta : TE) (t tk : TA) : TE := fun σ H Q => ta σ H fun x H1 => x = .ref C ∧ t σ H1 fun vs H2 => tk σ H2 fun zs H3 => vs.length = n ∧ zs.length = m ∧ sp (.ref C :: (vs ++ zs)) H3 Q E0
theorem pe_cmethK {X : Cx} {k n : Nat} {C p g : Addr} {fd : FuncData} {ps ks : List Str} {mc : Value} {sp : Sp} {o e : Expr} {es : List Expr} {kws : List Keyword} {m : Str} {pos apos : Pos} {ta : TE} {t tk : TA} {pl : Sem Bool}
    (ho : PE X o ta) (r : ClX.CRead X.K C mc) (c : ClX.CMet X.K C mc m p g) (F : FnOk X.prog X.w X.K X.mg X.base CX0 k g fd ps sp) (hb : ∀ (s : Shared) (us ws : List Value), X.K.In s.heap → us.length = n → ws.length = ks.length → BindsTo s fd ⟨.ref C :: us, ks.zip ws⟩ (ps.zip (.ref C :: (us ++ ws))))
    (hr : Room (k + 1) X.A) (ha : PA X (e :: es) t) (hkw : PK X kws tk)
    (he : starEach (e :: es) X.env = (false, eval e X.env) :: starEach es X.env := by rfl) (hpl : ((backTo pos (starEach (e :: es) X.env)).any (·.1) || (backToKw pos (keywordEach kws X.env)).any (·.1.isNone)) = false := by rfl)
    (hall : (backToKw pos (keywordEach kws X.env)).all (·.1.isSome) = true := by rfl) (hks : (backToKw pos (keywordEach kws X.env)).filterMap (·.1) = ks := by rfl)
    (ht : eval (.Call (.Attribute o m apos) (e :: es) kws pos) X.env = (do
      let ov ← eval o X.env
      standAt apos.atName
      let (f, first) ← holding [ov] (getMethod ov m pl)
      callWith pos f first (backTo pos (starEach (e :: es) X.env)) (backToKw pos (keywordEach kws X.env))) := by rfl) :
    PE X (.Call (.Attribute o m apos) (e :: es) kws pos) (tCMethK C n ks.length sp ta t tk) := by
  refine ⟨fun pins s σ H Q I h => ?_⟩
  refine methodCall_KW (pl := pl) (thn (ho.run pins s σ H _ I h) fun u s1 ⟨x, H1, I1, rx, ex, q⟩ => ?_) ht
  subst ex
  obtain rfl : u = Value.ref C := rx
  refine ClX.getmethcm_ok I1 r c fun s2 I2 => ?_
  refine callWith_of (P := MethP X.K s1.heap.objs.size g (.ref C)) hpl (keeps_M c.fi) (evalArgs_kw2 hall (thn (ha.run pos _ s2 σ H1 _ I2 q) fun us s3 ⟨vs, H2, I3, rv, q2⟩ => thn (hkw.run pos _ s3 σ H2 _ I3 q2) fun ws s4 ⟨zs, H3, I4, rz, l1, l2, hsp⟩ => ?_) he)
  refine ⟨⟨ClX.pin_at I4, I4.kIn⟩, ?_⟩
  rw [hks]
  have lu : us.length = n := by rw [← rv.length]; exact l1
  have lw : ws.length = ks.length := by rw [← rz.length]; exact l2
  have z : wpAny (model X.prog X.w) X.A (call (.ref s1.heap.objs.size) ([] ++ us) (ks.zip ws)) (EP X ((s1.heap.objs.size, methodObj (.ref g) (.ref C)) :: pins) σ Q) X.xe s4 := by
    refine wpAny_call (method_call (ClX.pin_at I4) (codeAny_mono (F.run X.A X.stack s4 H3 ⟨.ref C :: us, ks.zip ws⟩ (.ref C :: (us ++ ws)) (.ref C :: (vs ++ zs)) Q E0 (hr.mono (Nat.le_succ _)) I4.env0 (hb s4 us ws I4.kIn lu lw) (.cons rfl (rv.append rz)) hsp) fun r s' hq' => ?_))
    cases r with
    | error e => exact hq'.elim
    | ok fl =>
      cases fl with
      | ret u => exact I4.after hq'
      | next => exact False.elim hq'
      | brk => exact False.elim hq'
      | cont => exact False.elim hq'
  exact thn z fun _ _ y => ClX.unpinE y
end Sw
end

section
set_option Elab.async false
set_option autoImplicit false
set_option linter.all false
set_option maxRecDepth 100000
set_option maxHeartbeats 4000000
namespace Sw
open PySem PySem.Spec PyProof.Rows L2
section
variable {X : Cx}
/-- repr(x) of a tuple or a list -/
def rRepr (K : PySem.W.Frag) : List V → Hp → VK → Prop := fun xs H Q => ∃ a d, xs = [.ref a] ∧ Dp K H (.ref a) d ∧ d.showable = true ∧ d.hasDict = false ∧ d.depth < 60 ∧ d.shown.length ≤ sizeLine ∧ Q (.str d.shown) H
theorem cr_repr (hg : X.A.guards = some []) (hu : X.A.units + 64 < cLine) : CallR X (.builtin "repr") (rRepr X.K) := by
  intro pins s σ H xs us Q I r h
  obtain ⟨a, d, rfl, hd, hs, hn, hp, hz, q⟩ := h
  obtain ⟨u, rfl, ru⟩ := vals1 r
  obtain rfl : u = Value.ref a := ru
  obtain ⟨as, rd⟩ := Dp.reads I d _ _ hd rfl
  exact repr_of_reads' rd hs (fun e => by rw [hn] at e; cases e) hg (by omega) (fun _ _ e => e) (fun h' u tk k => ⟨.str d.shown, H, I.kept k, ⟨u, rfl⟩, q⟩) hz
end
/-- a def's promise where no repr runs around -/
structure FnG (P : Program) (w : World) (K : PySem.W.Frag) (mg : Str → Option Value) (base : Heap) (k : Nat) (f : Addr) (fd : FuncData) (ps : List Str) (sp : Sp) : Prop where
  len : ∀ vs H Q E, sp vs H Q E → vs.length = ps.length
  run : ∀ (A : Around) (outer : List Env) (s : Shared) (H : Hp) (args : Args) (us : List Value) (vs : List V) (Q : VK) (E : XK), A.guards = some [] → Room k A → Env0 P w K mg base A outer s H → BindsTo s fd args (ps.zip us) → Vals vs us → sp vs H Q E →
    codeAny (model P w) A (.call (.ref f) args) (CR CX0 outer P w H s Q E) s
section
variable {P : Program} {w : World} {K : PySem.W.Frag} {mg : Str → Option Value} {base : Heap} {x qual : Str} {params : Arguments} {body : List Stmt} {scope : Scope} {dvs : List V} {kws : List (Str × V)} {f : Addr} {fd : FuncData}
theorem FnG.of {N ps : List Str} {k : Nat} {sp : Sp} (F : FunD K x qual params body scope dvs kws f fd) (S : FnScope N ps scope) (len : ∀ vs H Q E, sp vs H Q E → vs.length = ps.length)
    (hbody : ∀ (cdv : Value) (A : Around) (outer : List Env) (s : Shared) (H : Hp) (vs : List V) (Q : VK) (E : XK), A.guards = some [] → Room k (A.deeper (envOfC qual scope s.heap.objs.size f cdv)) → sp vs H Q E →
      ∃ t, PSs (cxOf CX0 P w K mg base N qual scope f cdv A outer s H E) body t ∧ t { nx := fun _ H' => Q .non H', rt := Q } (L2.start N vs) H) : FnG P w K mg base (k + 1) f fd ps sp := by
  obtain ⟨oc, od, dV, kV, doc, pm, an, cdv, ct, osl, rfl, lk, hcd, _, _⟩ := F.ex
  refine ⟨len, fun A outer s H args us vs Q E hG hr e0 hb r hsp => ?_⟩
  have old : ∀ b o, base.get? b = some o → s.heap.get? b = some o := fun b o e => (e0.bs b o e).1
  have KX : K.In s.heap := e0.mod.kin.keeps old
  obtain ⟨t, ht, hq⟩ := hbody cdv A outer s H vs Q E hG (hr.deeper _) hsp
  have kinds : ∀ y ∈ ps.zip us, scope.names.lookup y.1 = some .local ∨ (scope.names.lookup y.1 = some .cell ∧ ((cellsFrom (s.heap.objs.size + 1) scope.names []).lookup y.1).isSome = true) := fun y hy => by
    rcases S.par y.1 (List.of_mem_zip (show (y.1, y.2) ∈ _ from hy)).1 with q | q
    · exact .inl q
    · exact .inr ⟨q, PySem.W.cellsFrom_some _ _ _ (.inl q)⟩
  refine codeAny_call_function hr.depth (KX _ _ lk) rfl S.co S.gen rfl (PySem.W.codeRec_of KX hcd) (hb _ _ _ _ (wpAny_newFunctionEnv_cells S.kind kinds fun env he s1 z => ?_))
  subst he
  refine ⟨(e0.mod.nolimit.keeps old).keeps z.toInCall.keep, codeAny_func ?_⟩
  have I := inv_start (CX := CX0) (E := E) S hr.hd e0 (len _ _ _ _ hsp) r z
  refine wpAny_mono (ht.run [] s1 (L2.start N vs) H _ I hq) (fun fl s' hs => ?_) fun e s' hs => hs
  have close : ∀ {σ' : L2.St} {H' : Hp} {v : V} {u : Value}, Inv (cxOf CX0 P w K mg base N qual scope f cdv A outer s H E) [] σ' H' s' → RelV v u → Q v H' → CE outer P w H s Q u s' :=
    fun {σ' H' v u} J rv q => ⟨v, H', J.os, J.bare, J.base, J.hok, rv, q⟩
  cases fl with
  | ret u => exact let ⟨v, σ', H', J, rv, q⟩ := hs; close J rv q
  | next => exact let ⟨σ', H', J, q⟩ := hs; close (v := V.non) (u := Value.none) J rfl q
  | brk => exact let ⟨_, _, _, q⟩ := hs; False.elim q
  | cont => exact let ⟨_, _, _, q⟩ := hs; False.elim q
end
/-- what a caller needs of such a def -/
def DfnG (P : Program) (w : World) (K : PySem.W.Frag) (mg : Str → Option Value) (base : Heap) (x : Str) (ps : List Str) (k : Nat) (sp : Sp) : Prop :=
  ∃ (f : Addr) (fd : FuncData), mg x = some (.ref f) ∧ PySem.W.keepIn K (.ref f) = true ∧ Binds K fd ps [] ∧ FnG P w K mg base k f fd ps sp
section
variable {X : Cx} {x : Str} {ps : List Str} {k : Nat} {sp : Sp} {e : Expr} {es : List Expr} {t : TA} {p pos : Pos}
theorem pe_callG (h : DfnG X.prog X.w X.K X.mg X.base x ps k sp) (hG : X.A.guards = some []) (hr : Room k X.A) (ha : PA X (e :: es) t) (hg : Gl X x := by rfl)
    (hdb : (x == ("__debug__" : Str)) = false := by decide) (he : starEach (e :: es) X.env = (false, eval e X.env) :: starEach es X.env := by rfl) (hpl : (backTo pos (starEach es X.env)).any (·.1) = false := by rfl) :
    PE X (.Call (.Name x p) (e :: es) [] pos) (tCall sp [] E0 t) := by
  obtain ⟨f, fd, hm, kp, b, F⟩ := h
  refine ⟨fun pins s σ H Q I hq => ?_⟩
  refine wpAny_Call_Name_kw (ld_glob I hg hm ?_ hdb)
  refine PySem.W.callWith_K (h₀ := X.base) I.ok.mod.kin kp (thn (ha.run pos pins s σ H _ I hq) fun us s1 ⟨vs, H1, I1, r, q⟩ => ⟨I1.kIn, ?_⟩) he hpl
  replace q : sp (vs ++ []) H1 Q E0 := q
  rw [List.append_nil] at q
  have lu : us.length = ps.length := by rw [← r.length]; exact F.len _ _ _ _ q
  have bt := b s1 us I1.kIn (by rw [List.append_nil]; exact lu)
  rw [List.append_nil] at bt
  refine wpAny_call (codeAny_mono (F.run X.A X.stack s1 H1 ⟨us, []⟩ us vs Q E0 hG hr I1.env0 bt r q) fun r s' hq' => ?_)
  cases r with
  | error e => exact hq'.elim
  | ok fl => cases fl <;> first | exact I1.after hq' | exact False.elim hq'
/-- f(k = v, ..) -/
theorem pe_callK0 {f : Addr} {fd : FuncData} {ks : List Str} {gV : List V → List V} {g : List Value → List Value} {kws : List Keyword} {tk : TA} (hm : X.mg x = some (.ref f)) (kp : PySem.W.keepIn X.K (.ref f) = true) (F : FnOk X.prog X.w X.K X.mg X.base CX0 k f fd ps sp) (hr : Room k X.A)
    (hb : ∀ (s : Shared) (ws : List Value), ws.length = ks.length → BindsTo s fd ⟨[], ks.zip ws⟩ (ps.zip (g ws))) (hgV : ∀ {zs : List V} {ws : List Value}, zs.length = ks.length → Vals zs ws → Vals (gV zs) (g ws)) (hkw : PK X kws tk) (hg : Gl X x := by rfl)
    (hall : (backToKw pos (keywordEach kws X.env)).all (·.1.isSome) = true := by rfl) (hks : (backToKw pos (keywordEach kws X.env)).filterMap (·.1) = ks := by rfl) (hdb : (x == ("__debug__" : Str)) = false := by decide)
    (hpl : ((backTo pos (starEach [] X.env)).any (·.1) || (backToKw pos (keywordEach kws X.env)).any (·.1.isNone)) = false := by rfl) :
    PE X (.Call (.Name x p) [] kws pos) (fun σ H Q => tk σ H fun zs H1 => zs.length = ks.length ∧ sp (gV zs) H1 Q E0) := by
  refine ⟨fun pins s σ H Q I h => ?_⟩
  refine wpAny_Call_Name_kw (ld_glob I hg hm ?_ hdb)
  refine PySem.W.callWith_KW0 (h₀ := X.base) I.ok.mod.kin kp hall (thn (hkw.run pos pins s σ H _ I h) fun ws s2 ⟨zs, H2, I2, rz, l2, q2⟩ => ⟨I2.kIn, ?_⟩) hpl
  rw [hks]
  have lw : ws.length = ks.length := by rw [← rz.length]; exact l2
  refine wpAny_call (codeAny_mono (F.run X.A X.stack s2 H2 ⟨[], ks.zip ws⟩ (g ws) (gV zs) Q E0 hr I2.env0 (hb s2 ws lw) (hgV l2 rz) q2) fun r s' hq' => ?_)
  cases r with
  | error e => exact hq'.elim
  | ok fl => cases fl <;> first | exact I2.after hq' | exact False.elim hq'
/-- x == y, instances of the class at C, by the text's own -/
def rEqI (C : Addr) (sp : Sp) : R2 := fun x y H Q => ∃ a b dx dy fs gs, x = .ref a ∧ y = .ref b ∧ H a = some (.ins C dx fs) ∧ H b = some (.ins C dy gs) ∧ sp [.ref a, .ref b] H (fun v H' => (∃ c, v = .bl c) ∧ Q v H') E0
theorem op_eqI {C f : Addr} {fd : FuncData} (hs : PySem.W.findIn X.K (.ref C) "__eq__" = some (some (.ref f))) (hf : PySem.W.isFn X.K (.ref f) = true) (hb : Binds X.K fd ps []) (F : FnOk X.prog X.w X.K X.mg X.base CX0 k f fd ps sp) (hr : Room k X.A) :
    OpR X (compareOp .Eq) (rEqI C sp) := by
  intro pins s σ H x y v u Q I rx ry h
  obtain ⟨a, b, dx, dy, fs, gs, rfl, rfl, ha, hb', h⟩ := h
  obtain rfl : v = Value.ref a := rx
  obtain rfl : u = Value.ref b := ry
  obtain ⟨_, O1, _⟩ := ins_get I.hok ha
  obtain ⟨_, O2, _⟩ := ins_get I.hok hb'
  obtain ⟨od, J1, _⟩ := O1.look
  obtain ⟨od', J2, _⟩ := O2.look
  obtain ⟨m, fr⟩ := I.fr
  show wpAny _ _ (richCompare .Eq (.ref a) (.ref b)) _ _ s
  refine PySem.W.cmp_K (op := .Eq) (tb := .ref C) hr.units0 fr I.ok.mod.kin J1 J2.type (by simp [PySem.W.notFirst]) hs hf ?_
  refine thn (run_fn (us := [.ref a, .ref b]) (vs := [.ref a, .ref b]) F hr hb .nil pass0 I (.cons rfl (.cons rfl .nil)) h) fun u' s' ⟨v', H', I', rv, ⟨c, ec⟩, q⟩ => ?_
  subst ec
  obtain rfl : u' = Value.bool c := rv
  exact ⟨.bl c, H', I', rfl, q⟩
end
end Sw
end

section
set_option Elab.async false
set_option autoImplicit false
set_option linter.all false
set_option maxRecDepth 100000
set_option maxHeartbeats 4000000
namespace Sw
open PySem PySem.Spec PyProof.Rows L2
theorem look_rel {G : Gx} {B : Addr → Prop} {H : Hp} {f : Str} {d : D} : ∀ {us : List (Str × V)} {fs : List (Str × D)}, us.map (·.1) = fs.map (·.1) → DqL G B H (us.map (·.2)) (fs.map (·.2)) → fs.lookup f = some d → ∃ v, us.lookup f = some v ∧ Dq G B H v d
  | [], [], _, _, h => by cases h
  | [], _ :: _, h, _, _ => by cases h
  | _ :: _, [], h, _, _ => by cases h
  | (a, v) :: us, (b, e) :: fs, h, r, hl => by
    rw [List.map_cons, List.map_cons] at h
    injection h with h1 h2
    have h1' : a = b := h1
    subst h1'
    cases r with
    | cons r1 r2 =>
      rw [List.lookup_cons] at hl ⊢
      cases c : f == a with
      | true =>
        rw [c] at hl
        cases hl
        exact ⟨v, rfl, r1⟩
      | false =>
        rw [c] at hl
        exact look_rel h2 r2 hl
theorem putF_new {f : Str} {v : V} : ∀ {us : List (Str × V)}, f ∉ us.map (·.1) → putF f v us = us ++ [(f, v)]
  | [], _ => rfl
  | (g, x) :: us, h => by
    have h1 : g ≠ f := fun e => h (by simp [e])
    have h2 : f ∉ us.map (·.1) := fun e => h (List.mem_cons_of_mem _ e)
    unfold putF
    rw [if_neg h1, putF_new h2]
    rfl
section
variable {S : Sc} {ρ : List Sl} {te tv : TE} {f : Str} {E : DE}
theorem we_fld {Q : D → Prop} (h : WE S te ρ fun x => ∃ C fs d, x = .ins C fs ∧ Cls S.G.K C ∧ NoAttr S.G.K C f ∧ fs.lookup f = some d ∧ Q d) : WE S (tFld S.G.K te f) ρ Q := fun σ H R Qv k =>
  h σ H R _ fun v H1 x e1 q1 ⟨C, fs, d, ex, c, n, hl, hq⟩ => by
    subst ex
    obtain ⟨a, dx, us, rfl, h1, nb, hk, r⟩ := dq_ins q1
    obtain ⟨w, hw, qw⟩ := look_rel hk r hl
    exact ⟨a, C, dx, us, w, rfl, h1, c, n, hw, k w H1 d e1 qw hq⟩
theorem we_fldO {Q : D → Prop} (i : Nat) {a C dx : Addr} {fs : List (Str × D)} {d : D} (hi : ρ[i]? = some (.own a (.ins C dx fs))) (c : Cls S.G.K C) (n : NoAttr S.G.K C f) (hl : fs.lookup f = some d) (hq : Q d) : WE S (tFld S.G.K (tVar i) f) ρ Q := fun σ H R Qv k => by
  obtain ⟨h1, us, h2, hk, r⟩ := R.varO hi
  obtain ⟨w, hw, qw⟩ := look_rel hk r hl
  exact ⟨.ref a, h1, a, C, dx, us, w, rfl, h2, c, n, hw, k w H d (Ex.refl H) qw hq⟩
/-- self.f = e, f not yet there -/
theorem ws_fset (i : Nat) {a C dx : Addr} {fs : List (Str × D)} (hi : ρ[i]? = some (.own a (.ins C dx fs))) (c : Cls S.G.K C) (n : NoAttr S.G.K C f) (hz : fs.length < 100) (hn : f ∉ fs.map (·.1)) (h : WE S tv ρ fun d => E.nx (ρ.set i (.own a (.ins C dx (fs ++ [(f, d)]))))) :
    WS S (sFld S.G.K (tVar i) tv f) ρ E := fun σ H Dv R l =>
  h σ H R _ fun v H1 d e1 q1 hq => by
    have R1 := R.mono e1
    obtain ⟨h1, us, h2, hk, r⟩ := R1.varO hi
    have hl : us.length = fs.length := by
      have := congrArg List.length hk
      simpa using this
    have hp : putF f v us = us ++ [(f, v)] := putF_new (by rw [hk]; exact hn)
    have ha : a ∈ (Sl.own a (.ins C dx fs)).ads := by simp [Sl.ads]
    have x := ext_upd (H := H1) (Bh := hid S.B ρ) (o' := .ins C dx (us ++ [(f, v)])) (.inr (mem_owns hi ha)) h2 trivial
    obtain ⟨R2, k⟩ := R1.write (c' := .ins C dx (fs ++ [(f, d)])) (o' := .ins C dx (us ++ [(f, v)])) hi ha h2 trivial rfl ⟨_, upd_same, by rw [List.map_append, List.map_append, hk]; rfl, by
      rw [List.map_append, List.map_append]
      exact (r.append (.cons q1 .nil)).ext x⟩
    refine ⟨.ref a, h1, a, C, dx, us, rfl, h2, c, n, by omega, ?_⟩
    rw [hp]
    exact l.nx _ _ _ R2 ((Keep.of e1).trans k) hq
end
end Sw
end

section
set_option Elab.async false
set_option autoImplicit false
set_option linter.all false
set_option maxRecDepth 100000
set_option maxHeartbeats 4000000
namespace Sw
open PySem PySem.Spec PyProof.Rows L2
open AutoSeq1 (wpAny_loadPart')
/-- the pairs (i, x) over a tuple -/
def IteT (K : PySem.W.Frag) (a : Addr) : It where
  go := fun i H => ∃ (xs : List V) (x : V), SqT K H a xs ∧ xs[i]? = some x
  yld := fun i H v H' => ∃ T x, v = .ref T ∧ H T = none ∧ H' = upd H T (.tup [.int (i : Nat), x]) ∧ ∀ xs, SqT K H a xs → xs[i]? = some x
  stop := fun i H => ∃ xs : List V, SqT K H a xs ∧ xs.length ≤ i
theorem turn_enumT {P : Program} {w : World} {K : PySem.W.Frag} {elts : List Expr} {kk : Nat} {tpos : Pos} (a e it : Addr) :
    Turn P w K (.Tuple elts kk tpos) (IteT K a) [e, it] e (fun i h => (∃ old, IsEnum h e it ((i : Nat) : Int) old) ∧ h.IsTupleIter it a i ∧ e ≠ it ∧ a ≠ it) := by
  have two : ∀ {b : Addr}, b ∈ [e, it] → b = e ∨ b = it := fun h => by simpa using h
  refine { mem := by simp, obj := fun i h st b hb => ?_, keep := fun i h h' st k => ?_, item := ?_, done := ?_, self := fun A i s Q E st h => ?_ }
  · obtain ⟨⟨old, he⟩, ⟨o, ho, hc, hd⟩, _⟩ := st
    rcases two hb with z | z
    · subst z
      exact ⟨_, he, fun v q => nomatch q⟩
    · subst z
      exact ⟨o, ho, fun v q => by rw [hd] at q; cases q⟩
  · obtain ⟨⟨old, he⟩, hi, n1, n2⟩ := st
    exact ⟨⟨old, k e (by simp) _ he⟩, hi.at fun o q => k it (by simp) o q, n1, n2⟩
  · intro X hP hw hK hc i pins s σ H E I hf st hg
    subst hP hw hK
    obtain ⟨⟨old, he⟩, hit, ne, na⟩ := st
    obtain ⟨xs, x, hq, hx⟩ := hg
    obtain ⟨its, rv, p, hz⟩ := I.tuple hq
    obtain ⟨u, hu, ru⟩ := rv.get hx
    have hlt : i < its.toArray.size := by
      have := (List.getElem?_eq_some_iff.mp hu).1
      simpa using this
    have ltE : e < s.heap.objs.size := Heap.lt_size he
    have ltI : it < s.heap.objs.size := by
      obtain ⟨_, q, _⟩ := hit
      exact Heap.lt_size q
    have Dr := Draws.tuple (prog := X.prog) (w := X.w) (A := X.A.in1) (I.ok.hd hc) it a na its.toArray
    by_cases hea : e = a
    · subst hea
      obtain ⟨o, ho, hcl, _⟩ := p
      rw [he] at ho
      cases ho
      exact absurd (Value.type.inj hcl) (by decide)
    refine wpAny_pyNext_enum_itemD Dr he ⟨hit, p⟩ hlt ne (by simp [ne, hea]) fun y h' tk hy ho hst hT hsz hk => ?_
    obtain ⟨hit', _⟩ := hst
    have ey : y = u := by
      have hu2 : its.toArray[i]? = some u := by simpa using hu
      rw [hu2] at hy
      exact (Option.some.inj hy).symm
    subst ey
    refine ⟨_, rfl, wpAny_letOwnedTupleGo_enum (s := { s with heap := h', toks := tk + 1 }) ho fun h2 he' sb => ?_⟩
    have hT2 : h2.get? s.heap.objs.size = some { cls := .type "tuple", data := .seq #[.int i tk, y] } := (sb.2 _ (Nat.ne_of_gt ltE)).trans hT
    have new : ObjOk X.prog X.w (upd H s.heap.objs.size (.tup [.int (i : Nat), x])) h2 s.heap.objs.size (.tup [.int (i : Nat), x]) :=
      ⟨by show 2 ≤ sizeLine; decide, [.int i tk, y], .cons ⟨_, rfl⟩ (.cons ru .nil), ⟨_, hT2, rfl, _, rfl⟩⟩
    have I1 : L2.Inv X pins σ (upd H s.heap.objs.size (.tup [.int (i : Nat), x])) { s with heap := h2, toks := tk + 1 } :=
      I.turnedNew (ch := [e, it]) (fun b ob hb q => (sb.2 b (fun z => hb (by simp [z]))).trans (hk b ob (fun z => hb (by simp [z])) (fun z => hb (by simp [z])) q)) hf (Nat.le_refl _) new
    refine ⟨.ref s.heap.objs.size, _, I1, rfl, ⟨_, x, rfl, I.hok.fresh (Nat.le_refl _), rfl, fun ys hy => by rw [I.tuple_inj hy hq]; exact hx⟩, ⟨⟨y, ?_⟩, hit'.at fun o q => (sb.2 it (Ne.symm ne)).trans q, ne, na⟩, fun b hb => ?_⟩
    · have e1 : ((i + 1 : Nat) : Int) = (i : Int) + 1 := by omega
      rw [e1]
      exact he'
    · have hb' : b < s.heap.objs.size := by
        rcases two hb with z | z
        · rw [z]; exact ltE
        · rw [z]; exact ltI
      rw [upd_ne (Nat.ne_of_lt hb')]
      exact (hf b hb).1
  · intro X hP hw hK hc i pins s σ H E I hf st hg
    subst hP hw hK
    obtain ⟨⟨old, he⟩, hit, ne, na⟩ := st
    obtain ⟨xs, hq, hx⟩ := hg
    obtain ⟨its, rv, p, hz⟩ := I.tuple hq
    obtain ⟨f0, f1, f2, f3, f4, f5⟩ := hf it (by simp)
    have hl := rv.length
    have hno : its.toArray[i]? = none := by simp; omega
    have hT : s.TypeIs (.ref e) "enumerate" := ⟨_, he, rfl⟩
    unfold pyNext
    refine wpAny_bind (wpAny_attempt (wpAny_callSpecial?_slot (name := Str.ofString "__next__") hT F.slot_enumerate_next (wpAny_call_entry F.slot_enumerate_next hT F.entry_enumerate_next ?_ (F.args_enumerate_next_1 _))))
    show wpAny _ _ (field (.ref e) 2 >>= _) _ _ _
    refine wpAny_bind (wpAny_field he rfl (x := .ref it) rfl ?_)
    refine wpAny_bind (wpAny_nextOf_tuple_end (I.ok.hd hc) hit p hno fun h' x hx' hex => ?_)
    obtain ⟨o, ho, hcl⟩ := hex
    refine wpAny_bind (wpAny_isInstance (T := "StopIteration") (b := true) ⟨o, ho, hcl⟩ isSubtype_stop ?_)
    exact wpAny_pure ⟨rfl, I.turned (t' := s.toks) (fun b o hb q => hx' b o hb q) f0 f1 f3 f4 f5⟩
  · obtain ⟨⟨_, he⟩, _⟩ := st
    exact wpAny_pyIter_enum he h
theorem meets_enumT (l : Addr) (items : Array Value) (n : Nat) (dct : Option Addr) (sl : Array (Option Value)) :
    Meets (Builtin.«enumerate.__new__» ⟨[.type "enumerate", .ref l], []⟩) (fun _ R s => s.heap.get? l = some { cls := .type "tuple", dict := dct, data := .seq items n, slots := sl } ∧
      R (.ok (.ret (.ref (s.heap.push { cls := .type "tuple_iterator", data := .fields #[.ref l, .int 0 0] }).objs.size)))
        { s with heap := (s.heap.push { cls := .type "tuple_iterator", data := .fields #[.ref l, .int 0 0] }).push { cls := .type "enumerate", data := .fields #[.none, .bool false, .ref s.heap.objs.size, rawInt 0, .none, .none] } }) :=
  .of_wp fun prog w A R s h => by
    obtain ⟨hp, g, d, tk, os⟩ := s
    obtain ⟨hl, h⟩ := h
    have hsub := sub_enumerate
    have hL : Heap.IsTuple (Shared.heap ⟨hp, g, d, tk, os⟩) l items := ⟨_, hl, rfl, n, rfl⟩
    wp_walk using wpAny_loadPart' hl
    refine wpAny_stack_any fun st => wpAny_pure ?_
    split
    · rename_i c _ _ _ _ _
      cases (c == Value.type "enumerate")
      · wp_walk using wpAny_loadPart' hl, wpAny_pyIter_tuple hL
        exact ⟨_, rfl, h⟩
      · wp_walk using wpAny_loadPart' hl, wpAny_pyIter_tuple hL
        exact ⟨_, rfl, h⟩
    · wp_walk using wpAny_loadPart' hl, wpAny_pyIter_tuple hL
      exact ⟨_, rfl, h⟩
/-- enumerate of a tuple -/
def iEnumT (K : PySem.W.Frag) (ta : TA) : TI := fun σ H R => tKnA K ta σ H fun vs H1 => ∃ a xs, vs = [.ref a] ∧ SqT K H1 a xs ∧ R (IteT K a) H1
theorem pi_enumT {X : Cx} {e : Expr} {ta : TA} {p pos tpos : Pos} {elts : List Expr} {kk : Nat} (hg : Gl X "enumerate") (hm : X.mg "enumerate" = none) (ha : PA X [e] ta) (hs : starEach [e] X.env = [(false, eval e X.env)] := by rfl) :
    PI X (.Tuple elts kk tpos) (.Call (.Name "enumerate" p) [e] [] pos) (iEnumT X.K ta) := by
  refine ⟨fun pins s σ H R I h => ?_⟩
  refine Call_ (ld_blt I hg hm boot_enumerate (PyProof.Rows.callWith_type1 (thn ((pa_kn ha).run pos pins s σ H _ I h) fun us s1 ⟨vs, H1, I1, r1, a, xs, ex, hq, q⟩ => ?_) hs rfl))
  subst ex
  cases r1 with
  | cons r rr =>
    cases rr
    cases r
    obtain ⟨its, rv, p', hz⟩ := I1.tuple hq
    have ha1 : a < s1.heap.objs.size := by
      obtain ⟨o, ho, _⟩ := p'
      exact Heap.lt_size ho
    obtain ⟨⟨c, dct, dt, sl⟩, hl, hc, n, hd⟩ := p'
    replace hc : c = .type "tuple" := hc
    replace hd : dt = .seq its.toArray n := hd
    subst hc hd
    refine callType_new F.called_enumerate (by decide) (F.typeCall_enumerate_1 _) (F.newCall_enumerate_1 _) (fun obj => F.args_object_init_2 obj _) F.entry_enumerate_new (meets_enumT a its.toArray n dct sl) ⟨hl, ?_⟩
    have hz1 : (s1.heap.push { cls := .type "tuple_iterator", data := .fields #[.ref a, .int 0 0] }).objs.size = s1.heap.objs.size + 1 := Heap.size_push ..
    show _ ∧ _
    rw [hz1]
    have he := Heap.get?_push_size (s1.heap.push { cls := .type "tuple_iterator", data := .fields #[.ref a, .int 0 0] }) (o := { cls := .type "enumerate", data := .fields #[.none, .bool false, .ref s1.heap.objs.size, rawInt 0, .none, .none] }) rfl
    rw [hz1] at he
    have he' : IsEnum _ (s1.heap.objs.size + 1) s1.heap.objs.size ((0 : Nat) : Int) .none := he
    have up : ∀ b o, s1.heap.get? b = some o → ((s1.heap.push { cls := .type "tuple_iterator", data := .fields #[.ref a, .int 0 0] }).push { cls := .type "enumerate", data := .fields #[.none, .bool false, .ref s1.heap.objs.size, rawInt 0, .none, .none] }).get? b = some o := fun b o z => Heap.get?_push_of_some _ (Heap.get?_push_of_some _ z)
    refine ⟨⟨_, he, rfl⟩, ?_⟩
    refine wpAny_pyIter_enum he' ?_
    refine ⟨s1.heap.objs.size + 1, [s1.heap.objs.size + 1, s1.heap.objs.size], _, _, H1, rfl, I1.kept (t' := s1.toks) up, turn_enumT a (s1.heap.objs.size + 1) s1.heap.objs.size, ⟨⟨.none, he'⟩, ⟨_, Heap.get?_push_of_some _ (Heap.get?_push_size _ rfl), rfl, rfl⟩, Nat.succ_ne_self _, Nat.ne_of_lt ha1⟩, fun b hb => ?_, q⟩
    have hle : s1.heap.objs.size ≤ b := by
      have e' : b = s1.heap.objs.size + 1 ∨ b = s1.heap.objs.size := by simpa using hb
      rcases e' with z | z
      · rw [z]; exact Nat.le_add_right _ _
      · rw [z]; exact Nat.le_refl _
    exact I1.fpOk hle (I1.hok.fresh hle)
theorem dw_enumT {G : Gx} {a : Addr} {ds : List D} : DW G (IteT G.K a) [.ref a] [.tup ds] (enumD ds) := fun Bh H al h => by
  cases h with
  | cons h _ =>
    obtain ⟨_, xs, e, h1, r⟩ := dq_tup h
    cases e
    have l := r.length
    have ll : (enumD ds).length = ds.length := by simp [enumD]
    refine ⟨fun i hi => ?_, ⟨xs, h1, by omega⟩, fun i x H' hi ⟨T, u, ex, hT, eH, k1⟩ => ?_⟩
    · rw [ll] at hi
      exact ⟨xs, xs[i]'(by omega), h1, by simp [show i < xs.length by omega]⟩
    · subst ex eH
      obtain ⟨d, g1, g2⟩ := r.get' (k1 xs h1)
      refine ⟨Ex.new hT, .tup [.int (i : Nat), d], ?_, .tup (SqT.of upd_same) (.cons (.int _) (.cons (g2.mono (Ex.new hT)) .nil))⟩
      unfold enumD
      rw [List.getElem?_map, List.getElem?_zipIdx, g1]
      simp
theorem wi_enumT {S : Sc} {ρ : List Sl} {ta : TA} {Q : List D → Prop} (h : WA S ta ρ fun xs => ∃ a, xs = [.tup a] ∧ Q (enumD a)) : WI S (iEnumT S.G.K ta) ρ Q := fun σ H R Rr k =>
  wa_kn h σ H R _ fun vs H' d sz e q ⟨x, hd, z⟩ => by
    subst hd
    cases q with
    | cons q qq =>
      cases qq
      obtain ⟨a, xs, rfl, h1, r⟩ := dq_tup q
      have z1 := sz a xs (.inr h1)
      exact ⟨a, xs, rfl, h1, k _ H' _ _ _ e (.cons q .nil) dw_enumT (by rw [r.length] at z1; simpa [enumD] using z1) z⟩
end Sw
end

section
set_option Elab.async false
set_option autoImplicit false
set_option linter.all false
set_option maxRecDepth 100000
set_option maxHeartbeats 4000000
namespace Sw
open PySem PySem.Spec PyProof.Rows L2
/-- any tuple of ints and texts is a key -/
theorem key_sqt {X : Cx} {pins : List (Addr × Obj)} {σ : L2.St} {H : Hp} {s : Shared} {b : Addr} {ks : List Key} (I : L2.Inv X pins σ H s) (e : SqT X.K H b (ks.map kV)) : (tupleKind (mixKind X.prog X.w)).is s.heap ks b := by
  obtain ⟨its, r, ⟨o, h1, h2, n, h3⟩, hz⟩ := I.tuple e
  exact ⟨o, its.toArray, n, h1, h2, h3, by simpa using items_are r⟩
def tDNotInT (K : PySem.W.Frag) (ty td : TE) : TE := fun σ H Q => ty σ H fun y H1 => td σ H1 fun x H2 => ∃ a b ks k, x = .ref a ∧ H2 a = some (.dT ks) ∧ y = .ref b ∧ SqT K H2 b (k.map kV) ∧ Q (.bl (!(valV ks k).isSome)) H2
theorem pc_dnotinT {X : Cx} {i o : Expr} {ty td : TE} (hu : X.A.units + 1 < cLine) (hi : PE X i ty) (ho : PE X o td) : PC X .NotIn i o (tDNotInT X.K ty td) := by
  refine ⟨fun pins s σ H Q I h => ?_⟩
  refine thn (hi.run pins s σ H _ I h) fun iv s1 ⟨y, H1, I1, ry, q1⟩ => thn (ho.run pins s1 σ H1 _ I1 q1) fun u s2 ⟨x, H2, I2, rx, a, b, ks, k, ex, ea, ey, eb, q2⟩ => ?_
  subst ex ey
  obtain rfl : u = Value.ref a := rx
  obtain rfl : iv = Value.ref b := ry
  obtain ⟨z, hd, xs, rel, dd⟩ := dt_of I2.hok ea
  refine wpAny_notIn_heap (tupleKind_room_in1 hu) (key_sqt I2 eb) hd dd ?_
  have q := (rel.val k).isSome_eq
  rw [Option.isSome_map] at q
  rw [← q]
  exact ⟨.bl (!(valV ks k).isSome), H2, I2.tok _, rfl, q2⟩
theorem kV_map : ∀ {G : Gx} {B : Addr → Prop} {H : Hp} {vs : List V} {ks : List Key}, DqL G B H vs (ks.map kD) → vs = ks.map kV
  | _, _, _, _, [], h => by cases h; rfl
  | _, _, _, _, k :: ks, h => by
    cases h with
    | cons h r => rw [dq_kD h, kV_map r]; rfl
section
variable {S : Sc} {ρ : List Sl} {ty td te tv tl th ta tb : TE} {E : DE}
/-- k not in d, d owned -/
theorem we_dnotinT {Q : D → Prop} (j : Nat) {a : Addr} {kvs : List (List Key × D)} (hj : ρ[j]? = some (.own a (.dT kvs))) (h : WE S ty ρ fun y => ∃ k : List Key, y = .tup (k.map kD) ∧ Q (.bl (!(kvs.any fun p => decide (p.1 = k))))) : WE S (tDNotInT S.G.K ty (tVar j)) ρ Q := fun σ H R Qv q =>
  h σ H R _ fun v H1 y e1 q1 ⟨k, ey, hq⟩ => by
    subst ey
    obtain ⟨b, vs, rfl, hb, r⟩ := dq_tup q1
    rw [kV_map r] at hb
    obtain ⟨g1, us, g2, g3, g4⟩ := (R.mono e1).varO hj
    refine ⟨_, g1, a, b, us, k, rfl, g2, rfl, hb, ?_⟩
    have es : (valV us k).isSome = (kvs.any fun p => decide (p.1 = k)) := by
      have e1 : (us.any fun p => decide (p.1 = k)) = (us.map (·.1)).any fun x => decide (x = k) := by rw [List.any_map] <;> rfl
      have e2 : (kvs.any fun p => decide (p.1 = k)) = (kvs.map (·.1)).any fun x => decide (x = k) := by rw [List.any_map] <;> rfl
      rw [e2, ← g3, ← e1]
      unfold valV
      rw [Option.isSome_map, Bool.eq_iff_iff, List.find?_isSome, List.any_eq_true]
    rw [es]
    exact q _ H1 _ e1 (.bl _) hq
/-- a new tuple of keys -/
def WKy (S : Sc) (te : TE) (ρ : List Sl) (Q : List Key → Prop) : Prop := ∀ σ H, S.R H σ ρ → ∀ Qv : VK, (∀ p H' k, Ex S.G H H' → H' p = some (.tup (k.map kV)) → Q k → Qv (.ref p) H') → te σ H Qv
theorem wk_sl {Q : List Key → Prop} {tl th : TO} (h : WE S te ρ fun x => WO S tl ρ fun lo => WO S th ρ fun hi => ∃ (xs : List D) (k : List Key), x = .tup xs ∧ cutD xs lo hi = k.map kD ∧ ¬ (HT.sIx xs.length 0 lo = 0 ∧ HT.sIx xs.length xs.length hi = xs.length) ∧ Q k) : WKy S (tSl (rSlU S.G.K) te tl th) ρ Q := fun σ H R Qv q =>
  h σ H R _ fun v H1 x e1 q1 h2 => h2 σ H1 (R.mono e1) _ fun lo H2 e2 h3 => h3 σ H2 (R.mono (e1.trans e2)) _ fun hi H3 e3 ⟨xs, k, ex, hk, hw, hq⟩ => by
    subst ex
    have e23 : Ex S.G H1 H3 := e2.trans e3
    obtain ⟨a, us, rfl, h1, r⟩ := dq_tup (q1.mono e23)
    refine .inr (.inl ⟨a, us, rfl, h1, fun e => ?_, fun e p hp => ?_⟩)
    · rw [r.length] at e
      exact absurd e hw
    · have rc := r.cut lo hi
      rw [hk] at rc
      have ec : cutV us lo hi = k.map kV := kV_map rc
      refine q p _ k ((e1.trans e23).trans (Ex.new hp)) ?_ hq
      rw [upd_same, ec]
/-- d[k] = e, d owned -/
theorem ws_dputT (j : Nat) {a : Addr} {kvs : List (List Key × D)} (hj : ρ[j]? = some (.own a (.dT kvs))) (hz : kvs.length < 1000) (h : WE S tv ρ fun d => WKy S ty ρ fun k => E.nx (ρ.set j (.own a (.dT (putD kvs k d))))) : WS S (sDPut (tVar j) ty tv) ρ E := fun σ H Dv R l =>
  h σ H R _ fun v H1 d e1 q1 h2 => by
    have R1 := R.mono e1
    obtain ⟨g1, us, g2, g3, g4⟩ := R1.varO hj
    refine ⟨.ref a, g1, h2 σ H1 R1 _ fun p H2 k e2 hp hq => ?_⟩
    have R2 := R1.mono e2
    obtain ⟨_, us2, k2, k3, k4⟩ := R2.varO hj
    have hl : us2.length = kvs.length := by
      have := congrArg List.length k3
      simpa using this
    have hlt : us2.length < sizeLine := by
      have : 1000 ≤ sizeLine := by decide
      omega
    have ha : a ∈ (Sl.own a (.dT kvs)).ads := by simp [Sl.ads]
    have x := ext_upd (H := H2) (Bh := hid S.B ρ) (o' := .dT (putK us2 k v)) (.inr (mem_owns hj ha)) k2 trivial
    obtain ⟨w1, w2⟩ := put_rel (k := k) (q1.mono e2) k3 k4
    obtain ⟨R3, kk⟩ := R2.write (c' := .dT (putD kvs k d)) (o' := .dT (putK us2 k v)) hj ha k2 trivial rfl ⟨_, upd_same, w1, w2.ext x⟩
    exact ⟨a, _, rfl, DPut.t k2 hp hlt, l.nx _ _ _ R3 ((Keep.of (e1.trans e2)).trans kk) hq⟩
/-- a new object without further addresses, owned from now on -/
theorem Rho.setO {G : Gx} {B : Addr → Prop} {H0 H H' : Hp} {σ : L2.St} (R : Rho G B H0 H σ ρ) (e : Ex G H H') {p : Addr} {c : OC} (n : H p = none) (hp : H' p ≠ none) (hm : c.more = []) (q : OCok G (wth (hid B ρ) p) H' p c) (i : Nat) :
    Rho G B H0 H' (σ.set i (some (.ref p))) (ρ.set i (.own p c)) ∧ Keep G B H ρ H' (ρ.set i (.own p c)) := by
  have np : ¬ hid B ρ p := R.alc.fresh n
  have ads : (Sl.own p c).ads = [p] := by simp [Sl.ads, hm]
  have inO : ∀ a, a ∈ owns (ρ.set i (.own p c)) → a ∈ owns ρ ∨ a = p := fun a h => by
    rcases owns_set_sub h with h | h
    · exact .inl h
    · rw [ads] at h
      exact .inr (by simpa using h)
  have sub : ∀ a, hid B (ρ.set i (.own p c)) a → hid B ρ a ∨ a = p := fun a h => by
    rcases h with h | h
    · exact .inl (.inl h)
    · rcases inO a h with h | h
      · exact .inl (.inr h)
      · exact .inr h
  have lt : ∀ a, H a ≠ none → hid B (ρ.set i (.own p c)) a → hid B ρ a := fun a ha hb => by
    rcases sub a hb with z | z
    · exact z
    · subst z
      exact absurd n ha
  have R2 := R.mono e
  refine ⟨⟨R2.tb, R2.ex, R2.bs, fun a h => ?_, by simpa using R2.len, fun j s es => ?_, fun a h => ?_, fun a h => ?_, owns_set_nodup R2.dis (by rw [ads]; simp) (fun a ha hb => ?_)⟩, fun v d h => (h.lessT lt).mono e⟩
  · rcases inO a h with z | z
    · exact R.nb a z
    · subst z
      exact fun y => R.bs a y n
  · by_cases hj : i = j
    · subst hj
      have hlt : i < ρ.length := by simpa using (List.getElem?_eq_some_iff.mp es).1
      rw [List.getElem?_set_self hlt] at es
      cases es
      exact ⟨_, List.getElem?_set_self (by rw [R.len]; exact hlt), rfl, q.less sub⟩
    · rw [List.getElem?_set_ne hj] at es
      obtain ⟨o, h1, h2⟩ := R.at_ j s es
      exact ⟨o, by rw [List.getElem?_set_ne hj]; exact h1, (h2.lessT lt).mono e⟩
  · rcases inO a h with z | z
    · exact R2.own a z
    · subst z
      exact nf R.ex n
  · rcases inO a h with z | z
    · exact R2.tr a z
    · subst z
      exact hp
  · rw [ads] at ha
    have z : a = p := by simpa using ha
    subst z
    exact np (.inr hb)
/-- i, j = [], {}: a list and a dict with tuple keys, both owned -/
theorem ws_parLT {i j : Nat} (h : ∀ p r, E.nx ((ρ.set i (.own p (.lst []))).set j (.own r (.dT [])))) : WS S (tPar i j (tCons (tLst tNil) (tCons tDNewT tNil))) ρ E := fun σ H Dv R l => by
  refine ⟨Nat.zero_le _, fun p hp r hr => ?_⟩
  obtain ⟨R1, k1⟩ := R.setO (Ex.new hp) (c := .lst []) hp (by rw [upd_same]; exact fun z => nomatch z) rfl ⟨[], upd_same, .nil⟩ i
  obtain ⟨R2, k2⟩ := R1.setO (Ex.new hr) (c := .dT []) hr (by rw [upd_same]; exact fun z => nomatch z) rfl ⟨[], upd_same, rfl, .nil⟩ j
  exact ⟨_, _, rfl, l.nx _ _ _ R2 (k1.trans k2) (h p r)⟩
end
end Sw
end

section
set_option Elab.async false
set_option autoImplicit false
set_option linter.all false
set_option maxRecDepth 100000
set_option maxHeartbeats 4000000
namespace Sw
open PySem PySem.Spec PyProof.Rows L2
theorem d_dictSetT {X : Cx} {pins : List (Addr × Obj)} {σ : L2.St} {H : Hp} {s : Shared} {E : Value → Shared → Prop} {D b : Addr} {kvs : List (List Key × V)} {k : List Key} {v : V} {r : Value} {Q : Unit → Shared → Prop} (hu : X.A.units + 1 < cLine) (I : L2.Inv X pins σ H s) (hD : H D = some (.dT kvs)) (hb : H b = some (.tup (k.map kV)))
    (hz : kvs.length < sizeLine) (rv : RelV v r) (h : ∀ s', L2.Inv X pins σ (upd H D (.dT (putK kvs k v))) s' → Q () s') : wpAny (model X.prog X.w) X.A (dictSet D (.ref b) r) Q E s := by
  obtain ⟨z, hd, xs, rel, dd⟩ := dt_of I.hok hD
  have hl : xs.length ≤ sizeLine := by rw [← Paired.length rel]; exact z
  have zl : (putK kvs k v).length ≤ sizeLine := by
    have := length_putK kvs k v
    omega
  refine wpAny_dictSet_heap (hsz := hl) (knd := tupleKind (mixKind X.prog X.w)) (show X.A.units < cLine by omega) (key_of I.hok hb) dd fun h' dd' hs => h _ ?_
  obtain ⟨q, es, ep, hq, h2, h3, h4, _, h5⟩ := dd'
  refine d_write I (by rw [hD]; exact True.intro) hs ⟨q, hq⟩ ⟨zl, hd, _, (rel.put k hb rv).keeps fun c ys ec => ?_, q, es, ep, hq, h2, h3, h4, h5⟩
  by_cases e : c = D
  · rw [e, hD] at ec
    cases ec
  · rw [upd_ne e]
    exact ec
/-- {k: v for target in iter}: D the new dict -/
def tDcT (wi : TI) (g : TG) (tk tv : TE) (vs : List Nat) : TE := fun σ H Q => wi σ H fun J H1 => ∀ D, H1 D = none → ∃ W : Nat → Nat → Hp → Prop, (∃ m, W 0 m (upd H1 D (.dT []))) ∧ ∀ i m H, W i m H →
  (J.stop i H ∧ Q (.ref D) H) ∨ (J.go i H ∧ ∃ Nx : Hp → Prop, (∀ H', Nx H' → ∃ m', m' < m ∧ W (i + 1) m' H') ∧ ∀ x H', J.yld i H x H' → g x (wipe σ vs) H' fun σ2 H2 => wipe σ2 vs = wipe σ vs ∧
    tk σ2 H2 fun y H4 => ∃ b k, y = .ref b ∧ H4 b = some (.tup (k.map kV)) ∧ tv σ2 H4 fun z H5 => ∃ kvs, H5 D = some (.dT kvs) ∧ H5 b = some (.tup (k.map kV)) ∧ kvs.length < sizeLine ∧ Nx (upd H5 D (.dT (putK kvs k z))))
section
variable {X : Cx}
theorem pe_dcT {kx vx tg iter : Expr} {scope : Scope} {own : List (Str × Nat)} {pos : Pos} {wi : TI} {g : TG} {tk tv : TE} (hc : X.calm = true) (hu : X.A.units + 1 < cLine) (hN : X.N.Nodup) (hi : PI X tg iter wi) (ok : BlkOk X.N X.env.scope scope own)
    (hg : ∀ (s : Shared) (H : Hp) (C : Addr) (cl : List (Str × Addr)) (fp : List Addr), PG (X.blk s H scope (compEnvC scope cl C X.env) fp) tg g)
    (hk : ∀ (s : Shared) (H : Hp) (C : Addr) (cl : List (Str × Addr)) (fp : List Addr), PE (X.blk s H scope (compEnvC scope cl C X.env) fp) kx tk)
    (hv : ∀ (s : Shared) (H : Hp) (C : Addr) (cl : List (Str × Addr)) (fp : List Addr), PE (X.blk s H scope (compEnvC scope cl C X.env) fp) vx tv) (hs : ∀ x, foldedSetIterable iter X.env x = pure x := by intro _; rfl) :
    PE X (.DictComp kx vx [⟨tg, iter, [], 0⟩] scope pos) (tDcT wi g tk tv (own.map (·.2))) := by
  refine ⟨fun pins s σ H Q I h => ?_⟩
  rw [arm_eval_DictComp]
  have frees : ∀ y ∈ scope.names, y.2 = .free → ∃ c, X.env.cells.lookup y.1 = some c := fun y hy e =>
    (ok.free y hy e).elim (fun k => I.ok.has _ (.inl k)) fun k => I.ok.has _ (.inr k)
  refine wpAny_comprehension_free (use := none) rfl hs (closure_ok frees) ok.kind (fun y hy e => by rw [ok.uniq y hy, e]) (thn (hi.run pins s σ H _ I h) fun xv sA hx => thn hx fun itv sB hB => ?_)
  obtain ⟨it, fp, tn, J, HB, rfl, IB, T, stB, fB, qB⟩ := hB
  refine wpAny_newObj_type (newEnv_comp ?_)
  -- the new dict
  have newD := IB.hok.fresh (Nat.le_refl sB.heap.objs.size)
  obtain ⟨W, ⟨m0, w0⟩, turn⟩ := qB sB.heap.objs.size newD
  have IC := IB.laid (t' := sB.toks) (o := .dT []) (h' := sB.heap.push { cls := .type "dict", data := .dict #[] }) (fun b o e => Heap.get?_push_of_some _ e) (Nat.le_refl _) (dt_empty sB.heap IB.big)
  have older : ∀ b ∈ fp, b < sB.heap.objs.size := fun b hb => let ⟨o, e, _⟩ := T.obj _ _ stB b hb; Heap.lt_size e
  have fC : ∀ b ∈ fp, FpOk X pins (upd HB sB.heap.objs.size (.dT [])) b ∧ b < (sB.heap.push { cls := .type "dict", data := .dict #[] }).objs.size := fun b hb => by
    have lt := older b hb
    refine ⟨⟨?_, (fB b hb).2⟩, by rw [Heap.size_push]; exact Nat.lt_succ_of_lt lt⟩
    rw [upd_ne (Nat.ne_of_lt lt)]
    exact (fB b hb).1
  have stC : tn 0 (sB.heap.push { cls := .type "dict", data := .dict #[] }) := T.keep _ _ _ stB fun b _ o e => Heap.get?_push_of_some _ e
  generalize hsC : ({ sB with heap := sB.heap.push { cls := .type "dict", data := .dict #[] } } : Shared) = sC
  have eC : sC.heap = sB.heap.push { cls := .type "dict", data := .dict #[] } := by rw [← hsC]
  have IC' : L2.Inv X pins σ (upd HB sB.heap.objs.size (.dT [])) sC := by rw [← hsC]; exact IC
  rw [← eC] at fC stC
  generalize sB.heap.objs.size = D at *
  generalize hHC : upd HB D (.dT []) = HC at *
  have ID := block_start IC' ok hN fC
  have pg := hg sC HC sC.heap.objs.size (cellsFrom (sC.heap.objs.size + 1) scope.names (cloFrom X.env.cells scope.names [])) fp
  have pk := hk sC HC sC.heap.objs.size (cellsFrom (sC.heap.objs.size + 1) scope.names (cloFrom X.env.cells scope.names [])) fp
  have pv := hv sC HC sC.heap.objs.size (cellsFrom (sC.heap.objs.size + 1) scope.names (cloFrom X.env.cells scope.names [])) fp
  show codeAny _ _ (.compStart (.DictComp kx vx [⟨tg, iter, [], 0⟩] scope pos) 0 (.ref it) (.ref D) (compEnvC scope (cellsFrom (sC.heap.objs.size + 1) scope.names (cloFrom X.env.cells scope.names [])) sC.heap.objs.size X.env)) (compPost (model X.prog X.w) X.A X.xe none (EP X pins σ Q) (.ref D) sC.heap.objs.size)
    { sC with heap := pushCells (sC.heap.push { cls := .type "dict", data := .dict #[] }) scope.names }
  generalize hce : compEnvC scope (cellsFrom (sC.heap.objs.size + 1) scope.names (cloFrom X.env.cells scope.names [])) sC.heap.objs.size X.env = ce at ID pg pk pv ⊢
  have hcl : ce.locals = sC.heap.objs.size := by subst hce; rfl
  generalize hsD : ({ sC with heap := pushCells (sC.heap.push { cls := .type "dict", data := .dict #[] }) scope.names } : Shared) = sD at ID ⊢
  have stD : tn 0 sD.heap := T.keep _ _ _ stC fun b _ o e => by rw [← hsD]; exact pushCells_keeps _ _ _ _ (Heap.get?_push_of_some _ e)
  have none0 : ∀ b ∈ fp, HC b = none := fun b hb => (fC b hb).1.1
  have foot : ∀ {σ' : L2.St} {H' : Hp} {s' : Shared}, L2.Inv (X.blk sC HC scope ce fp) [] σ' H' s' → (∀ b ∈ fp, H' b = none) → ∀ b ∈ fp, FpOk (X.blk sC HC scope ce fp) [] H' b := fun {σ' H' s'} I' hn b hb =>
    ⟨hn b hb, (I'.ok.exf b hb).1, I'.ok.exfs b hb, .inl hb, fun x c e => (I'.ok.exf b hb).2 x c e, fun p hp => absurd (show p ∈ ([] : List (Addr × Obj)) ++ [] from hp) (by simp)⟩
  have loop : codeAny (model X.prog X.w) X.A (.compLoop (.DictComp kx vx [⟨tg, iter, [], 0⟩] scope pos) 0 (.ref it) (.ref D) ce) (compPost (model X.prog X.w) X.A X.xe none (EP X pins σ Q) (.ref D) sC.heap.objs.size) sD := by
    refine compLoop_anyD (fun n s' => ∃ i H', L2.Inv (X.blk sC HC scope ce fp) [] (wipe σ (own.map (·.2))) H' s' ∧ tn i s'.heap ∧ (∀ b ∈ fp, H' b = none) ∧ W i n H') ?_ m0 ⟨0, HC, ID, stD, none0, w0⟩
    rintro n sE ⟨i, HE, IE, stE, nE, wE⟩
    rcases turn i n HE wE with ⟨stop, qq⟩ | ⟨go, Nx, hNx, step⟩
    · refine thnF (T.done (X.blk sC HC scope ce fp) rfl rfl rfl hc i [] sE _ HE (fun _ _ => False) IE (foot IE nE) stE stop) fun r sF ⟨hr, IF⟩ => ?_
      subst hr
      have IG : L2.Inv X pins σ HE sF := IC'.call' (ch := fp) IF.os IF.base IF.hok IF.bare fun b hb => ⟨(fC b hb).1.2.2.2.1, (fC b hb).1.2.1, (fC b hb).1.2.2.2.2.1, (fC b hb).1.2.2.2.2.2⟩
      have nC : HE sC.heap.objs.size = none := by rw [← hcl]; exact IF.free
      obtain ⟨m, hn, _⟩ := IF.loc
      have hn' : sF.heap.Ns sC.heap.objs.size m := by rw [← hcl]; exact hn
      obtain ⟨f0, f1, f2, f3, f4, f5⟩ := IC'.fpOk (Nat.le_refl sC.heap.objs.size) nC
      exact ⟨m, hn', fun h'' sb => ⟨.ref D, HE, IG.turned (t' := sF.toks) (fun b o hb e => (sb.2 b hb).trans e) f0 f1 f3 f4 f5, rfl, qq⟩⟩
    · refine thnF (T.item (X.blk sC HC scope ce fp) rfl rfl rfl hc i [] sE _ HE (fun _ _ => False) IE (foot IE nE) stE go) fun r sF ⟨u, hr, hF⟩ => ?_
      subst hr
      refine thnF hF fun _ sG ⟨x, HG, IG, rG, yG, stG, nG⟩ => ?_
      refine thnF (pg.run _ sG _ HG x u _ (IG.pinned (foot IG nG) (T.obj _ _ stG)) rG (step x HG yG)) fun _ sI ⟨σI, HI, II, hw, qI⟩ => ?_
      have fin : ∀ {s' : Shared} {H' : Hp}, L2.Inv (X.blk sC HC scope ce fp) ([] ++ pinsAt fp sG.heap) σI H' s' → Nx H' → ∃ m, m < n ∧ ∃ i H', L2.Inv (X.blk sC HC scope ce fp) [] (wipe σ (own.map (·.2))) H' s' ∧ tn i s'.heap ∧ (∀ b ∈ fp, H' b = none) ∧ W i m H' := fun {s' H'} I' nx => by
        obtain ⟨m', hm, w'⟩ := hNx H' nx
        have at_ : ∀ b ∈ fp, ∀ o, sG.heap.get? b = some o → s'.heap.get? b = some o ∧ H' b = none := fun b hb o e =>
          let z := I'.pin (b, o) (List.mem_append_right _ (List.mem_append_right _ (mem_pinsAt hb e)))
          ⟨z.1, z.2.1⟩
        refine ⟨m', hm, i + 1, H', (I'.unpinned (pins := [])).weak (by rw [← hw, wipe_length]) (fun j v e => ?_), T.keep _ _ _ stG fun b hb o e => (at_ b hb o e).1, fun b hb => ?_, w'⟩
        · rw [← hw] at e
          exact (wipe_some e).1
        · obtain ⟨o, e, _⟩ := T.obj _ _ stG b hb
          exact (at_ b hb o e).2
      refine thnF (PTs.run (pts_nil (X := X.blk sC HC scope ce fp)) _ sI σI HI (fun b H' => b = true ∧ H' = HI) II ⟨rfl, rfl⟩) fun b sJ ⟨HJ, IJ, eb, eH⟩ => ?_
      subst eb eH
      simp only [if_true]
      refine thnF (pk.run _ sJ σI HJ _ IJ qI) fun z sK ⟨yk, HK, IK, rK, b, k, ek, hbK, qK⟩ => ?_
      subst ek
      obtain rfl : z = Value.ref b := rK
      refine thnF (pv.run _ sK σI HK _ IK qK) fun z2 sL ⟨yv, HL, IL, rL, kvs, hD, hbL, hz, nx⟩ => ?_
      exact d_dictSetT (X := X.blk sC HC scope ce fp) hu IL hD hbL hz rL fun sM IM => fin IM nx
  exact codeAny_compStart_dict loop (T.self X.A 0 _ _ _ stD loop)
end
end Sw
end

section
set_option Elab.async false
set_option autoImplicit false
set_option linter.all false
set_option maxRecDepth 100000
set_option maxHeartbeats 4000000
namespace Sw
open PySem PySem.Spec PyProof.Rows L2
theorem we_dcT {S : Sc} {ρ : List Sl} {tk tv : TE} {wi : TI} {α : Type} {j : Nat} {Q : D → Prop} (hj : ∃ s, ρ[j]? = some s ∧ s.ads = []) (h : WI S wi ρ fun ds => ∃ (zs : List α) (f : α → D), ds = zs.map f ∧ zs.length ≤ 1000 ∧
    (∀ z ∈ zs, ∀ p, WKy (S.in p) tk (ρ.set j (.d (f z))) fun _ => WE (S.in p) tv (ρ.set j (.d (f z))) fun _ => True) ∧ Q .any) :
    WE S (tDcT wi (gName j) tk tv [j]) ρ Q := fun σ H R Qv k => by
  obtain ⟨s, hs, ha⟩ := hj
  refine h σ H R _ fun J H1 us es ds e1 q1 dw sz ⟨zs, f, ed, hz, hb, hq⟩ D hD => ?_
  subst ed
  have R1 := R.mono e1
  have ho : owns (wipeR ρ [j]) = owns ρ := owns_setno hs ha
  have eD : Ex S.G H1 (upd H1 D (.dT [])) := Ex.new hD
  let Pv : Nat → Hp → Prop := fun i H' => ∃ kvs, Ex S.G H1 H' ∧ H' D = some (.dT kvs) ∧ kvs.length ≤ i
  refine ⟨fun i m H' => m = (zs.map f).length - i ∧ i ≤ (zs.map f).length ∧ Pv i H', ⟨_, rfl, Nat.zero_le _, [], eD, upd_same, Nat.le_refl _⟩, ?_⟩
  rintro i m H' ⟨rfl, hi, kvs, e2, hw, la⟩
  have R2 : Rho S.G (wth S.B D) S.H0 H' (wipe σ [j]) (wipeR ρ [j]) := (R1.wipe [j]).hide e2 hD (by rw [hw]; exact fun z => nomatch z)
  have q2 : DqL S.G (hid (wth S.B D) (wipeR ρ [j])) H' us es := ((q1.fresh hD).mono e2).less fun a z => (hid_wth ho a).mp z
  obtain ⟨go, stop, yld⟩ := dw _ H' R2.alc q2
  by_cases hlt : i < (zs.map f).length
  · refine .inr ⟨go i hlt, fun H2 => Pv (i + 1) H2, fun H2 p2 => ⟨(zs.map f).length - (i + 1), by omega, rfl, hlt, p2⟩, fun x H2 y => ?_⟩
    obtain ⟨e3, d, hd2, qx⟩ := yld i x H2 hlt y
    rw [List.getElem?_map] at hd2
    cases ez : zs[i]? with
    | none => rw [ez] at hd2; cases hd2
    | some z =>
      rw [ez] at hd2
      cases hd2
      refine wg_name (S := S.in D) (Q := fun ρ2 => ρ2 = ρ.set j (.d (f z))) (show (wipeR ρ [j]).set j (.d (f z)) = _ from set_set_no) (wipe σ [j]) H2 x (R2.mono e3) qx _ fun σ3 H3 ρ3 R3 e5 hs3 hwp e9 => ⟨?_, ?_⟩
      · have := hwp [j] (fun _ h => h)
        rw [this]
        exact wipe_wipe [j]
      subst e9
      refine hb z (List.mem_of_getElem? ez) D σ3 H3 R3 _ fun p H4 kk e6 hp hv => ⟨p, kk, rfl, hp, ?_⟩
      refine hv σ3 H4 (R3.mono e6) _ fun v H5 dv e7 _ _ => ?_
      have eA : Ex S.G H' H5 := (e3.trans e5).trans (e6.trans e7)
      have hw5 := eA.at hw
      have hl : kvs.length < sizeLine := by
        have : 2000 ≤ sizeLine := by decide
        rw [List.length_map] at hlt
        omega
      refine ⟨kvs, hw5, e7.at hp, hl, putK kvs kk v, (e2.trans eA).wr hD hw5 trivial, upd_same, ?_⟩
      have := length_putK kvs kk v
      omega
  · exact .inl ⟨stop' hi hlt stop, k _ H' .any (e1.trans e2) (.any _) hq⟩
where
  stop' {n i : Nat} {J : It} {H' : Hp} (hi : i ≤ n) (hlt : ¬ i < n) (s : J.stop n H') : J.stop i H' := by
    have e : i = n := by omega
    subst e
    exact s
end Sw
end

section
set_option Elab.async false
set_option autoImplicit false
set_option linter.all false
set_option maxRecDepth 100000
set_option maxHeartbeats 4000000
namespace Sw
open PySem PySem.Spec PyProof.Rows L2
/-- consecutive ones ascend -/
def asc (xs : List Str) : Prop := ∀ z ∈ xs.zip (xs.drop 1), z.1.cps.toList < z.2.cps.toList
structure NmsOk (xs : List Str) : Prop where
  nm : ∀ x ∈ xs, isNm x = true
  asc : asc xs
  ok : ∀ x ∈ xs, sOk x
  short : xs.length ≤ 100
def F_are_names : FD := fun ds Q => ∃ xs : List Str, ds = [pD xs] ∧ NmsOk xs ∧ Q (.bl true)
abbrev sp_are_names (G : Gx) : Sp := spD G 1 F_are_names
structure BcOk (bases cons : List Str) : Prop where
  b : NmsOk bases
  c : NmsOk cons
  ne : bases ≠ []
  dis : ∀ x ∈ cons, x ∉ bases
def F_check_names : FD := fun ds Q => ∃ bases cons : List Str, ds = [pD bases, pD cons] ∧ BcOk bases cons ∧ Q .non
abbrev sp_check_names (G : Gx) : Sp := spD G 2 F_check_names
/-- a role: a base, or none -/
def oD : Option Str → D
  | none => .non
  | some x => .str x
def roleOk (bases : List Str) (r : Option Str) : Prop := ∀ x, r = some x → x ∈ bases
def F_check_role : FD := fun ds Q => ∃ (w : Str) (bases : List Str) (r : Option Str), ds = [.str w, pD bases, oD r] ∧ roleOk bases r ∧ Q .non
abbrev sp_check_role (G : Gx) : Sp := spD G 3 F_check_role
/-- no two entries take the same kinds -/
def NoCl (es : List En) : Prop := es.Pairwise fun a b => ¬ clash a b
def esD (es : List En) : D := .tup (es.map enD)
def F_check_clashes : FD := fun ds Q => ∃ es : List En, ds = [esD es] ∧ (∀ e ∈ es, EnOk e) ∧ NoCl es ∧ Q .non
abbrev sp_check_clashes (G : Gx) : Sp := spD G 1 F_check_clashes
def F_by_names : FD := fun ds Q => ∃ es : List En, ds = [esD es] ∧ (∀ e ∈ es, EnOk e) ∧ es.length ≤ 100 ∧ Q .any
abbrev sp_by_names (G : Gx) : Sp := spD G 1 F_by_names
/-- a library -/
structure Lby where
  bases : List Str
  cons : List Str
  es : List En
  nu : Option Str
  qu : Option Str
  tr : Option Str
def lbF (L : Lby) : List (Str × D) := [("bases", pD L.bases), ("constructors", pD L.cons), ("number", oD L.nu), ("quote", oD L.qu), ("truth", oD L.tr), ("sorted_entries", esD L.es), ("by_name", .any)]
def lbD (C : Addr) (L : Lby) : D := .ins C (lbF L)
abbrev lbC (G : Gx) : Addr := He.ga G.K "Library"
/-- what of the text the class must have -/
structure LbK (K : PySem.W.Frag) (C : Addr) : Prop where
  cls : Cls K C
  no : ∀ f ∈ ((["bases", "constructors", "number", "quote", "truth", "sorted_entries", "by_name"] : List Str)), NoAttr K C f
def F_roles_of (C : Addr) : FD := fun ds Q => ∃ L : Lby, ds = [lbD C L] ∧ Q (.tup [oD L.nu, oD L.qu, oD L.tr])
abbrev sp_roles_of (G : Gx) : Sp := spD G 1 (F_roles_of (lbC G))
/-- the order of entries -/
def leE (a b : En) : Bool := leD (enD a) (enD b)
def srtE (es : List En) : List En := es.mergeSort leE
structure LbOk (L : Lby) : Prop where
  bc : BcOk L.bases L.cons
  es : ∀ e ∈ L.es, EnOf L.bases L.cons e
  nc : NoCl L.es
  nu : roleOk L.bases L.nu
  qu : roleOk L.bases L.qu
  tr : roleOk L.bases L.tr
  short : L.es.length ≤ 100
def sortd (L : Lby) : Lby := { L with es := srtE L.es }
def F_of (C : Addr) : FD := fun ds Q => ∃ L : Lby, ds = [.adr C, pD L.bases, pD L.cons, esD L.es, oD L.nu, oD L.qu, oD L.tr] ∧ LbOk L ∧ Q (lbD C (sortd L))
abbrev sp_of (G : Gx) : Sp := spD G 7 (F_of (lbC G))
def F_entries (C : Addr) : FD := fun ds Q => ∃ L : Lby, ds = [lbD C L] ∧ Q (esD L.es)
abbrev sp_entries (G : Gx) : Sp := spD G 1 (F_entries (lbC G))
/-- __init__: self is new; behind it self holds the library's parts -/
def sp_init (G : Gx) : Sp := fun vs H Q _ => ∃ (B : Addr → Prop) (H0 : Hp) (x dx : Addr) (us : List V) (L : Lby), vs = V.ref x :: us ∧ H0 x = none ∧ Ex G H0 H ∧ H x = some (.ins (lbC G) dx []) ∧ Alc B H0 ∧ G.tb H ∧
  DqL G (wth B x) H us [pD L.bases, pD L.cons, oD L.nu, oD L.qu, oD L.tr, esD L.es] ∧ LbOk L ∧
  ∀ H' fs, Ex G H0 H' → H' x = some (.ins (lbC G) dx fs) → fs.map (·.1) = (lbF (sortd L)).map (·.1) → DqL G (wth B x) H' (fs.map (·.2)) ((lbF (sortd L)).map (·.2)) → Q .non H'
def F_is_entry_for (C : Addr) : FD := fun ds Q => ∃ (L : Lby) (e : En), ds = [lbD C L, enD e] ∧ EnOf L.bases L.cons e ∧ Q (.bl true)
abbrev sp_is_entry_for (G : Gx) : Sp := spD G 2 (F_is_entry_for (lbC G))
def F_is_from_nought : FD := fun ds Q => ∃ i : Int, ds = [.int i] ∧ 0 ≤ i ∧ Q (.bl true)
abbrev sp_is_from_nought (G : Gx) : Sp := spD G 1 F_is_from_nought
/-- a deed -/
inductive Dd where
  | undo (h n : Int) | add (e : En) | drop (e : En)
deriving DecidableEq
abbrev ddD : Dd → D
  | .undo h n => .tup [.str "undo", .int h, .int n]
  | .add e => .tup [.str "add", enD e]
  | .drop e => .tup [.str "drop", enD e]
structure Rc where
  h : Int
  n : Int
  day : Int
  deed : Dd
deriving DecidableEq
abbrev rcD (r : Rc) : D := .tup [.int r.h, .int r.n, .int r.day, ddD r.deed]
def DdOk (bases cons : List Str) : Dd → Prop
  | .undo h n => 0 ≤ h ∧ 0 ≤ n
  | .add e => EnOf bases cons e
  | .drop e => EnOf bases cons e
structure RcOk (bases cons : List Str) (r : Rc) : Prop where
  h : 0 ≤ r.h
  n : 0 ≤ r.n
  day : 0 ≤ r.day
  deed : DdOk bases cons r.deed
def F_is_deed (C : Addr) : FD := fun ds Q => ∃ (L : Lby) (d : Dd), ds = [lbD C L, ddD d] ∧ DdOk L.bases L.cons d ∧ Q (.bl true)
abbrev sp_is_deed (G : Gx) : Sp := spD G 2 (F_is_deed (lbC G))
def F_is_record (C : Addr) : FD := fun ds Q => ∃ (L : Lby) (r : Rc), ds = [lbD C L, rcD r] ∧ RcOk L.bases L.cons r ∧ Q (.bl true)
abbrev sp_is_record (G : Gx) : Sp := spD G 2 (F_is_record (lbC G))
def F_name_of : FD := fun ds Q => ∃ r : Rc, ds = [rcD r] ∧ Q (.tup [.int r.h, .int r.n])
abbrev sp_name_of (G : Gx) : Sp := spD G 1 F_name_of
def rk3 (r : Rc) : List Int := [r.day, r.h, r.n]
def F_rank_of : FD := fun ds Q => ∃ r : Rc, ds = [rcD r] ∧ Q (.tup ((rk3 r).map D.int))
abbrev sp_rank_of (G : Gx) : Sp := spD G 1 F_rank_of
structure RcsOk (bases cons : List Str) (rs : List Rc) : Prop where
  ok : ∀ r ∈ rs, RcOk bases cons r
  nd : (rs.map fun r => (r.h, r.n)).Nodup
  short : rs.length ≤ 100
def F_are_records (C : Addr) : FD := fun ds Q => ∃ (L : Lby) (rs : List Rc), ds = [lbD C L, .tup (rs.map rcD)] ∧ RcsOk L.bases L.cons rs ∧ Q (.bl true)
abbrev sp_are_records (G : Gx) : Sp := spD G 2 (F_are_records (lbC G))
/-- the order of records -/
def leR (a b : Rc) : Bool := PySem.W.dataLe false kP (rk3 a) (rk3 b)
def srtR (rs : List Rc) : List Rc := rs.mergeSort leR
def F_by_rank : FD := fun ds Q => ∃ rs : List Rc, ds = [.lst (rs.map rcD)] ∧ Q (.lst ((srtR rs).map rcD))
abbrev sp_by_rank (G : Gx) : Sp := spD G 1 F_by_rank
/-- one record more, the later ones gone through: what is live, whose names are undone -/
def lvStep (st : List Rc × List (Int × Int)) (r : Rc) : List Rc × List (Int × Int) :=
  if (r.h, r.n) ∈ st.2 then st else (st.1 ++ [r], match r.deed with
    | .undo h n => st.2 ++ [(h, n)]
    | _ => st.2)
def liveR (rs : List Rc) (day : Int) : List Rc := ((srtR (rs.filter fun r => decide (r.day ≤ day))).reverse.foldl lvStep ([], [])).1.reverse
def F_live_in : FD := fun ds Q => ∃ (rs : List Rc) (day : Int), ds = [.tup (rs.map rcD), .int day] ∧ rs.length ≤ 100 ∧ Q (.lst ((liveR rs day).map rcD))
abbrev sp_live_in (G : Gx) : Sp := spD G 2 F_live_in
open Classical in
/-- the entries behind a deed -/
noncomputable def behind (es : List En) : Dd → List En
  | .undo _ _ => es
  | .drop e => es.filter fun o => decide (o ≠ e)
  | .add e => if ∃ o ∈ es, clash o e then es else es ++ [e]
def isPut : Dd → Bool
  | .undo _ _ => false
  | _ => true
def F_entries_behind : FD := fun ds Q => ∃ (es : List En) (d : Dd), ds = [.lst (es.map enD), ddD d] ∧ isPut d = true ∧ (∀ e ∈ es, EnOk e) ∧ (∀ e, (d = .add e ∨ d = .drop e) → EnOk e) ∧ es.length ≤ 1000 ∧ Q (.lst ((behind es d).map enD))
abbrev sp_entries_behind (G : Gx) : Sp := spD G 2 F_entries_behind
noncomputable def dayE (es : List En) (rs : List Rc) (day : Int) : List En := (liveR rs day).foldl (fun acc r => behind acc r.deed) es
noncomputable def dayL (L : Lby) (rs : List Rc) (day : Int) : Lby := { L with es := srtE (dayE L.es rs day) }
def F_library_of_day (C : Addr) : FD := fun ds Q => ∃ (L : Lby) (rs : List Rc) (day : Int), ds = [lbD C L, .tup (rs.map rcD), .int day] ∧ LbOk L ∧ L.es.length + rs.length ≤ 100 ∧ RcsOk L.bases L.cons rs ∧ Q (lbD C (dayL L rs day))
abbrev sp_library_of_day (G : Gx) : Sp := spD G 3 (F_library_of_day (lbC G))
def F_need_records (C : Addr) : FD := fun ds Q => ∃ (L : Lby) (rs : List Rc), ds = [lbD C L, .tup (rs.map rcD)] ∧ RcsOk L.bases L.cons rs ∧ Q .non
abbrev sp_need_records (G : Gx) : Sp := spD G 2 (F_need_records (lbC G))
def F_need_day : FD := fun ds Q => ∃ i : Int, ds = [.int i] ∧ 0 ≤ i ∧ Q .non
abbrev sp_need_day (G : Gx) : Sp := spD G 1 F_need_day
def F_live (C : Addr) : FD := fun ds Q => ∃ (L : Lby) (rs : List Rc) (day : Int), ds = [lbD C L, .tup (rs.map rcD), .int day] ∧ RcsOk L.bases L.cons rs ∧ 0 ≤ day ∧ Q (.tup ((liveR rs day).map rcD))
abbrev sp_live (G : Gx) : Sp := spD G 3 (F_live (lbC G))
def F_library_on (C : Addr) : FD := fun ds Q => ∃ (L : Lby) (rs : List Rc) (day : Int), ds = [lbD C L, .tup (rs.map rcD), .int day] ∧ LbOk L ∧ L.es.length + rs.length ≤ 100 ∧ RcsOk L.bases L.cons rs ∧ 0 ≤ day ∧ Q (lbD C (dayL L rs day))
abbrev sp_library_on (G : Gx) : Sp := spD G 3 (F_library_on (lbC G))
end Sw
end

section
set_option Elab.async false
set_option autoImplicit false
set_option linter.all false
set_option maxRecDepth 100000
set_option maxHeartbeats 4000000
namespace Sw
open PySem PySem.Spec PyProof.Rows L2
def N_are_names : List Str := ["thing", "one", "other", "name"]
theorem nd_are_names : N_are_names.Nodup := by decide +kernel
def t_are_names (G : Gx) : TS :=
    (tSeq (tIfS (tOr (tNot (tB (tCB (rIsi G.K) (tCons (tVar 0) (tCons (tC (.ty "tuple")) tNil))))) (tNot (tB (tCB (rAll G.K) (tCons (tLc (iSeq G.K (tVar 0)) (gName 3) tYes (tCall (sp_is_name G) [] E0 (tCons (tVar 3) tNil)) [3]) tNil))))) (tRet (tC (.bl false))) tNext)
    (tRet (tCB (rAll G.K) (tCons (tLc (iZipK G.K (tCons (tVar 0) (tCons (tSl (rSlU G.K) (tVar 0) (tPart (tC (.int 1))) tNoPart) tNil))) (gTup G.K 2 (gCons (gName 1) (gCons (gName 2) gNil))) tYes (tOp (rLtU G.K) (tVar 1) (tVar 2)) [1, 2]) tNil))))

def N_check_names : List Str := ["bases", "constructors", "name"]
theorem nd_check_names : N_check_names.Nodup := by decide +kernel
def t_check_names (G : Gx) : TS :=
    (tSeq (tIfS (tOr (tNot (tB (tCall (sp_are_names G) [] E0 (tCons (tVar 0) tNil)))) (tTest (tOp (rEqD G.K) (tVar 0) (tTup tNil)))) tNever tNext)
    (tIfS (tOr (tNot (tB (tCall (sp_are_names G) [] E0 (tCons (tVar 1) tNil)))) (tB (tCB (rAny G.K) (tCons (tLc (iSeq G.K (tVar 1)) (gName 2) tYes (tOp (rInU G.K) (tVar 2) (tVar 0)) [2]) tNil)))) tNever tNext))

def N_check_role : List Str := ["word", "bases", "thing"]
theorem nd_check_role : N_check_role.Nodup := by decide +kernel
def t_check_role (G : Gx) : TS :=
    (tIfS (tAnd (tTest (tOp rNotN (tVar 2) (tC .non))) (tOr (tNot (tB (tCB (rIsi G.K) (tCons (tVar 2) (tCons (tC (.ty "str")) tNil))))) (tTest (tOp (rNotInU G.K) (tVar 2) (tVar 1))))) tNever tNext)

def N_check_clashes : List Str := ["entries", "at", "entry", "other"]
theorem nd_check_clashes : N_check_clashes.Nodup := by decide +kernel
def t_check_clashes (G : Gx) : TS :=
    (tFor (iEnumT G.K (tCons (tVar 0) tNil)) (gTup G.K 2 (gCons (gName 1) (gCons (gName 2) gNil))) (tSeq (tAsg (tCall (sp_clash_with G) [] E0 (tCons (tVar 2) (tCons (tSl (rSlU G.K) (tVar 0) tNoPart (tPart (tVar 1))) tNil))) (gName 3))
    (tIfS (tTest (tOp rNotN (tVar 3) (tC .non))) tNever tNext)))

def N_by_names : List Str := ["entries", "entry", "other"]
theorem nd_by_names : N_by_names.Nodup := by decide +kernel
def t_by_names (G : Gx) : TS :=
    (tRet (tDcT (iSeq G.K (tVar 0)) (gName 1) (tSl (rSlU G.K) (tVar 1) tNoPart (tPart (tC (.int 2)))) (tCB (rTupU G.K) (tCons (tLc (iSeq G.K (tVar 0)) (gName 2) (tTest (tOp (rEqD G.K) (tSl (rSlU G.K) (tVar 2) tNoPart (tPart (tC (.int 2)))) (tSl (rSlU G.K) (tVar 1) tNoPart (tPart (tC (.int 2)))))) (tVar 2) [2]) tNil)) [1]))

def N_roles_of : List Str := ["library"]
theorem nd_roles_of : N_roles_of.Nodup := by decide +kernel
def t_roles_of (G : Gx) : TS :=
    (tRet (tTup (tCons (tFld G.K (tVar 0) "number") (tCons (tFld G.K (tVar 0) "quote") (tCons (tFld G.K (tVar 0) "truth") tNil)))))

def N_is_entry_for : List Str := ["library", "thing"]
theorem nd_is_entry_for : N_is_entry_for.Nodup := by decide +kernel
def t_is_entry_for (G : Gx) : TS :=
    (tRet (tCall (sp_is_entry_of G) [] E0 (tCons (tVar 1) (tCons (tFld G.K (tVar 0) "bases") (tCons (tFld G.K (tVar 0) "constructors") tNil)))))

def N_is_from_nought : List Str := ["thing"]
theorem nd_is_from_nought : N_is_from_nought.Nodup := by decide +kernel
def t_is_from_nought (G : Gx) : TS :=
    (tRet (tAndV (tCB (rIsi G.K) (tCons (tVar 0) (tCons (tC (.ty "int")) tNil))) (tAndV (tNotV (tCB (rIsi G.K) (tCons (tVar 0) (tCons (tC (.ty "bool")) tNil)))) (tOp rGeU (tVar 0) (tC (.int 0))))))

def N_is_deed : List Str := ["base", "thing"]
theorem nd_is_deed : N_is_deed.Nodup := by decide +kernel
def t_is_deed (G : Gx) : TS :=
    (tSeq (tIfS (tOr (tNot (tB (tCB (rIsi G.K) (tCons (tVar 1) (tCons (tC (.ty "tuple")) tNil))))) (tOr (tTest (tOp (rEqD G.K) (tVar 1) (tTup tNil))) (tNot (tB (tCB (rIsi G.K) (tCons (tOp (rIx G.K) (tVar 1) (tC (.int 0))) (tCons (tC (.ty "str")) tNil))))))) (tRet (tC (.bl false))) tNext)
    (tSeq (tIfS (tTest (tOp (rEqD G.K) (tOp (rIx G.K) (tVar 1) (tC (.int 0))) (tC (.str "undo")))) (tRet (tAndV (tOp (rEqD G.K) (tCB (rLenU G.K) (tCons (tVar 1) tNil)) (tC (.int 3))) (tAndV (tCall (sp_is_from_nought G) [] E0 (tCons (tOp (rIx G.K) (tVar 1) (tC (.int 1))) tNil)) (tCall (sp_is_from_nought G) [] E0 (tCons (tOp (rIx G.K) (tVar 1) (tC (.int 2))) tNil))))) tNext)
    (tRet (tAndV (tOp (rEqD G.K) (tCB (rLenU G.K) (tCons (tVar 1) tNil)) (tC (.int 2))) (tAndV (tOp (rInU G.K) (tOp (rIx G.K) (tVar 1) (tC (.int 0))) (tTup (tCons (tC (.str "add")) (tCons (tC (.str "drop")) tNil)))) (tCall (sp_is_entry_for G) [] E0 (tCons (tVar 0) (tCons (tOp (rIx G.K) (tVar 1) (tC (.int 1))) tNil))))))))

def N_is_record : List Str := ["base", "thing", "part"]
theorem nd_is_record : N_is_record.Nodup := by decide +kernel
def t_is_record (G : Gx) : TS :=
    (tSeq (tIfS (tOr (tNot (tB (tCB (rIsi G.K) (tCons (tVar 1) (tCons (tC (.ty "tuple")) tNil))))) (tOr (tTest (tOp (rNeD G.K) (tCB (rLenU G.K) (tCons (tVar 1) tNil)) (tC (.int 4)))) (tNot (tB (tCall (sp_is_deed G) [] E0 (tCons (tVar 0) (tCons (tOp (rIx G.K) (tVar 1) (tC (.int 3))) tNil))))))) (tRet (tC (.bl false))) tNext)
    (tRet (tCB (rAll G.K) (tCons (tLc (iSeq G.K (tSl (rSlU G.K) (tVar 1) tNoPart (tPart (tC (.int 3))))) (gName 2) tYes (tCall (sp_is_from_nought G) [] E0 (tCons (tVar 2) tNil)) [2]) tNil))))

def N_name_of : List Str := ["record"]
theorem nd_name_of : N_name_of.Nodup := by decide +kernel
def t_name_of (G : Gx) : TS :=
    (tRet (tSl (rSlU G.K) (tVar 0) tNoPart (tPart (tC (.int 2)))))

def N_rank_of : List Str := ["record"]
theorem nd_rank_of : N_rank_of.Nodup := by decide +kernel
def t_rank_of (G : Gx) : TS :=
    (tRet (tTup (tCons (tOp (rIx G.K) (tVar 0) (tC (.int 2))) (tCons (tOp (rIx G.K) (tVar 0) (tC (.int 0))) (tCons (tOp (rIx G.K) (tVar 0) (tC (.int 1))) tNil)))))

def N_are_records : List Str := ["base", "thing", "names", "record", "one", "other"]
theorem nd_are_records : N_are_records.Nodup := by decide +kernel
def t_are_records (G : Gx) : TS :=
    (tSeq (tIfS (tOr (tNot (tB (tCB (rIsi G.K) (tCons (tVar 1) (tCons (tC (.ty "tuple")) tNil))))) (tNot (tB (tCB (rAll G.K) (tCons (tLc (iSeq G.K (tVar 1)) (gName 3) tYes (tCall (sp_is_record G) [] E0 (tCons (tVar 0) (tCons (tVar 3) tNil))) [3]) tNil))))) (tRet (tC (.bl false))) tNext)
    (tSeq (tAsg (tCB (rSortedD G.K) (tCons (tLc (iSeq G.K (tVar 1)) (gName 3) tYes (tCall (sp_name_of G) [] E0 (tCons (tVar 3) tNil)) [3]) tNil)) (gName 2))
    (tRet (tCB (rAll G.K) (tCons (tLc (iZipK G.K (tCons (tVar 2) (tCons (tSl (rSlU G.K) (tVar 2) (tPart (tC (.int 1))) tNoPart) tNil))) (gTup G.K 2 (gCons (gName 4) (gCons (gName 5) gNil))) tYes (tOp (rLtU G.K) (tVar 4) (tVar 5)) [4, 5]) tNil)))))

def N_by_rank : List Str := ["records"]
theorem nd_by_rank : N_by_rank.Nodup := by decide +kernel
def t_by_rank (G : Gx) : TS :=
    (tRet (tSortKF G F_rank_of (tCB (rLstU G.K) (tCons (tVar 0) tNil))))

def N_live_in : List Str := ["records", "day", "found", "undone", "record"]
theorem nd_live_in : N_live_in.Nodup := by decide +kernel
def t_live_in (G : Gx) : TS :=
    (tSeq (tPar 2 3 (tCons (tLst tNil) (tCons tDNewT tNil)))
    (tSeq (tFor (iSeq G.K (tRevL G.K (tCall (sp_by_rank G) [] E0 (tCons (tLc (iSeq G.K (tVar 0)) (gName 4) (tTest (tOp rLeU (tOp (rIx G.K) (tVar 4) (tC (.int 2))) (tVar 1))) (tVar 4) [4]) tNil)))) (gName 4) (tIfS (tB (tDNotInT G.K (tCall (sp_name_of G) [] E0 (tCons (tVar 4) tNil)) (tVar 3))) (tSeq (tDrop (tBM G.K "list" rAppend (tVar 2) (tCons (tVar 4) tNil)))
    (tIfS (tTest (tOp (rEqD G.K) (tOp (rIx G.K) (tOp (rIx G.K) (tVar 4) (tC (.int 3))) (tC (.int 0))) (tC (.str "undo")))) (sDPut (tVar 3) (tSl (rSlU G.K) (tOp (rIx G.K) (tVar 4) (tC (.int 3))) (tPart (tC (.int 1))) tNoPart) (tC (.bl true))) tNext)) tNext))
    (tRet (tRevL G.K (tVar 2)))))

def N_entries_behind : List Str := ["entries", "deed", "word", "entry", "other"]
theorem nd_entries_behind : N_entries_behind.Nodup := by decide +kernel
def t_entries_behind (G : Gx) : TS :=
    (tSeq (tAsg (tVar 1) (gTup G.K 2 (gCons (gName 2) (gCons (gName 3) gNil))))
    (tSeq (tIfS (tTest (tOp (rEqD G.K) (tVar 2) (tC (.str "drop")))) (tRet (tLc (iSeq G.K (tVar 0)) (gName 4) (tTest (tOp (rNeD G.K) (tVar 4) (tVar 3))) (tVar 4) [4])) tNext)
    (tRet (tIf (tTest (tOp rNotN (tCall (sp_clash_with G) [] E0 (tCons (tVar 3) (tCons (tVar 0) tNil))) (tC .non))) (tVar 0) (tLst (StX.tStar G.K (tVar 0) (tCons (tVar 3) tNil)))))))

def N_need_records : List Str := ["base", "records"]
theorem nd_need_records : N_need_records.Nodup := by decide +kernel
def t_need_records (G : Gx) : TS :=
    (tIfS (tNot (tB (tCall (sp_are_records G) [] E0 (tCons (tVar 0) (tCons (tVar 1) tNil))))) tNever tNext)

def N_need_day : List Str := ["day"]
theorem nd_need_day : N_need_day.Nodup := by decide +kernel
def t_need_day (G : Gx) : TS :=
    (tIfS (tNot (tB (tCall (sp_is_from_nought G) [] E0 (tCons (tVar 0) tNil)))) tNever tNext)
end Sw
end

section
set_option Elab.async false
set_option autoImplicit false
set_option linter.all false
set_option maxRecDepth 100000
set_option maxHeartbeats 4000000
namespace Sw
open PySem PySem.Spec PyProof.Rows L2

def N_Library___init__ : List Str := ["self", "bases", "constructors", "number", "quote", "truth", "entries", "entry"]
theorem nd_Library___init__ : N_Library___init__.Nodup := by decide +kernel
def t_Library___init__ (G : Gx) : TS :=
    (tSeq (tDrop (tCall (sp_check_names G) [] E0 (tCons (tVar 1) (tCons (tVar 2) tNil))))
    (tSeq (tFor (iSeq G.K (tVar 6)) (gName 7) (tIfS (tNot (tB (tCall (sp_is_entry_of G) [] E0 (tCons (tVar 7) (tCons (tVar 1) (tCons (tVar 2) tNil)))))) tNever tNext))
    (tSeq (tDrop (tCall (sp_check_role G) [] E0 (tCons (tC (.str "number")) (tCons (tVar 1) (tCons (tVar 3) tNil)))))
    (tSeq (tDrop (tCall (sp_check_role G) [] E0 (tCons (tC (.str "quote")) (tCons (tVar 1) (tCons (tVar 4) tNil)))))
    (tSeq (tDrop (tCall (sp_check_role G) [] E0 (tCons (tC (.str "truth")) (tCons (tVar 1) (tCons (tVar 5) tNil)))))
    (tSeq (tDrop (tCall (sp_check_clashes G) [] E0 (tCons (tVar 6) tNil)))
    (tSeq (sFld G.K (tVar 0) (tVar 1) "bases")
    (tSeq (sFld G.K (tVar 0) (tVar 2) "constructors")
    (tSeq (sFld G.K (tVar 0) (tVar 3) "number")
    (tSeq (sFld G.K (tVar 0) (tVar 4) "quote")
    (tSeq (sFld G.K (tVar 0) (tVar 5) "truth")
    (tSeq (sFld G.K (tVar 0) (tCB (rTupU G.K) (tCons (tCB (rSortedD G.K) (tCons (tVar 6) tNil)) tNil)) "sorted_entries")
    (sFld G.K (tVar 0) (tCall (sp_by_names G) [] E0 (tCons (tFld G.K (tVar 0) "sorted_entries") tNil)) "by_name")))))))))))))

def N_Library_of : List Str := ["cls", "bases", "constructors", "entries", "number", "quote", "truth"]
theorem nd_Library_of : N_Library_of.Nodup := by decide +kernel
def t_Library_of (G : Gx) : TS :=
    (tSeq (tDrop (tCall (sp_check_names G) [] E0 (tCons (tVar 1) (tCons (tVar 2) tNil))))
    (tSeq (tIfS (tNot (tB (tCB (rIsi G.K) (tCons (tVar 3) (tCons (tC (.ty "tuple")) tNil))))) tNever tNext)
    (tRet (tMakeSK (lbC G) 2 3 (sp_init G) (tVar 0) (tCons (tVar 1) (tCons (tVar 2) (StX.tStar G.K (tVar 3) tNil))) (tCons (tVar 4) (tCons (tVar 5) (tCons (tVar 6) tNil)))))))
end Sw
end

section
set_option Elab.async false
set_option autoImplicit false
set_option linter.all false
set_option maxRecDepth 100000
set_option maxHeartbeats 4000000
namespace Sw
open PySem PySem.Spec PyProof.Rows L2
def N_library_of_day : List Str := ["base", "records", "day", "entries", "record", "number", "quote", "truth"]
theorem nd_library_of_day : N_library_of_day.Nodup := by decide +kernel
def t_library_of_day (G : Gx) : TS :=
    (tSeq (tAsg (tCB (rLstU G.K) (tCons (tProp (lbC G) (getSp (lbC G) "sorted_entries") [] E0 (tVar 0)) tNil)) (gName 3))
    (tSeq (tFor (iSeq G.K (tCall (sp_live_in G) [] E0 (tCons (tVar 1) (tCons (tVar 2) tNil)))) (gName 4) (tIfS (tTest (tOp (rNeD G.K) (tOp (rIx G.K) (tOp (rIx G.K) (tVar 4) (tC (.int 3))) (tC (.int 0))) (tC (.str "undo")))) (tAsg (tCall (sp_entries_behind G) [] E0 (tCons (tVar 3) (tCons (tOp (rIx G.K) (tVar 4) (tC (.int 3))) tNil))) (gName 3)) tNext))
    (tSeq (tAsg (tCall (sp_roles_of G) [] E0 (tCons (tVar 0) tNil)) (gTup G.K 3 (gCons (gName 5) (gCons (gName 6) (gCons (gName 7) gNil)))))
    (tRet (tCMethK (lbC G) 3 3 (sp_of G) (tC (.ref (lbC G))) (tCons (tFld G.K (tVar 0) "bases") (tCons (tFld G.K (tVar 0) "constructors") (tCons (tCB (rTupU G.K) (tCons (tVar 3) tNil)) tNil))) (tCons (tVar 5) (tCons (tVar 6) (tCons (tVar 7) tNil))))))))

def N_live : List Str := ["base", "records", "day"]
theorem nd_live : N_live.Nodup := by decide +kernel
def t_live (G : Gx) : TS :=
    (tSeq (tDrop (tCall (sp_need_records G) [] E0 (tCons (tVar 0) (tCons (tVar 1) tNil))))
    (tSeq (tDrop (tCall (sp_need_day G) [] E0 (tCons (tVar 2) tNil)))
    (tRet (tCB (rTupU G.K) (tCons (tCall (sp_live_in G) [] E0 (tCons (tVar 1) (tCons (tVar 2) tNil))) tNil)))))

def N_library_on : List Str := ["base", "records", "day"]
theorem nd_library_on : N_library_on.Nodup := by decide +kernel
def t_library_on (G : Gx) : TS :=
    (tSeq (tDrop (tCall (sp_need_records G) [] E0 (tCons (tVar 0) (tCons (tVar 1) tNil))))
    (tSeq (tDrop (tCall (sp_need_day G) [] E0 (tCons (tVar 2) tNil)))
    (tRet (tCall (sp_library_of_day G) [] E0 (tCons (tVar 0) (tCons (tVar 1) (tCons (tVar 2) tNil)))))))
end Sw
end

section
set_option Elab.async false
set_option autoImplicit false
set_option linter.all false
set_option maxRecDepth 100000
set_option maxHeartbeats 4000000
namespace Sw
open PySem PySem.Spec PyProof.Rows L2
abbrev tHash (P : Program) (w : World) (k : List Str) : Int := tupleKeyHash (PySem.strKind P w) k
abbrev IsS (P : Program) (w : World) (h : Heap) (k : List Str) (a : Addr) : Prop := IsTupleKey (PySem.strKind P w) h k a
section
variable {P : Program} {w : World} {A : Around} {E : Value → Shared → Prop} {s : Shared}
theorem texts_of {k : List Str} {vs : List Value} (h : ItemsAre (PySem.strKind P w) k vs) : ∀ v ∈ vs, ∃ x t, v = Value.str x t := by
  induction h with
  | nil => exact fun v hv => nomatch hv
  | @cons k0 u ks us h1 _ ih =>
    intro v hv
    cases hv with
    | head =>
      cases u with
      | str x t => exact ⟨x, t, rfl⟩
      | _ =>
        simp only [PySem.strKind] at h1
        exact absurd h1 (by simp [Value.isStrOf])
    | tail _ hv => exact ih v hv
theorem cls_text (n : Nat) (x : Str) (t : Tok) : ofAClassStatement n (.str x t) = pure false := by cases n <;> rfl
theorem hash_text (n : Nat) (x : Str) (t : Tok) : hashByValue n (.str x t) = pure false := by cases n <;> rfl
theorem cls_texts {k : List Str} {b : Addr} {Q : Bool → Shared → Prop} (hk : IsS P w s.heap k b) (h : Q false s) : wpAny (model P w) A (ofAClassStatement 8 (.ref b)) Q E s := by
  have ty := hk.typeIs
  obtain ⟨o, items, n, ho, _, hd, hi⟩ := hk
  have all := texts_of hi
  unfold ofAClassStatement
  refine wpAny_bind (wpAny_typeOf ty ?_)
  dsimp only
  simp only [show (("tuple" : String) == "tuple") = true by decide, if_true, Bool.not_true, Bool.false_eq_true, if_false]
  try refine wpAny_bind (wpAny_pure ?_)
  try simp only [Bool.not_true, Bool.false_eq_true, if_false]
  refine wpAny_bind (m := seqItems? (.ref b)) (wpAny_seqItems ho hd (wpAny_bind ?_))
  show wpAny _ _ (forIn items _ _) _ _ s
  rw [← Array.forIn_toList]
  refine wpAny_forIn_list _ (fun left r t => r.1 = none ∧ t = s ∧ ∀ v ∈ left, ∃ x t, v = Value.str x t) _ (fun v left r t ⟨h1, h2, h3⟩ => ?_) (fun r t ⟨h1, h2, _⟩ => ?_) _ _ ⟨rfl, rfl, all⟩
  · subst h2
    obtain ⟨x, t, rfl⟩ := h3 v (.head _)
    rw [cls_text]
    refine wpAny_bind (wpAny_pure ?_)
    simp only [Bool.false_eq_true, if_false]
    exact wpAny_pure ⟨rfl, rfl, fun u hu => h3 u (.tail _ hu)⟩
  · obtain ⟨r1, r2⟩ := r
    cases h1
    cases h2
    exact wpAny_pure h
theorem hash_texts {k : List Str} {b : Addr} {Q : Bool → Shared → Prop} (hk : IsS P w s.heap k b) (h : ∀ c, Q c s) : wpAny (model P w) A (hashByValue 8 (.ref b)) Q E s := by
  have ty := hk.typeIs
  obtain ⟨o, items, n, ho, _, hd, hi⟩ := hk
  have all := texts_of hi
  unfold hashByValue
  refine wpAny_bind (wpAny_specialOf ty F.slot_tuple_hash.lookup ?_)
  refine wpAny_bind (m := seqItems? (.ref b)) (wpAny_seqItems ho hd (wpAny_bind ?_))
  show wpAny _ _ (forIn items _ _) _ _ s
  rw [← Array.forIn_toList]
  refine wpAny_forIn_list _ (fun left r t => r.1 = none ∧ t = s ∧ ∀ v ∈ left, ∃ x t, v = Value.str x t) _ (fun v left r t ⟨h1, h2, h3⟩ => ?_) (fun r t ⟨h1, h2, _⟩ => ?_) _ _ ⟨rfl, rfl, all⟩
  · subst h2
    obtain ⟨x, t, rfl⟩ := h3 v (.head _)
    rw [hash_text]
    refine wpAny_bind (wpAny_pure ?_)
    simp only [Bool.not_false, if_true]
    exact wpAny_pure (wpAny_pure (h false))
  · obtain ⟨r1, r2⟩ := r
    cases h1
    cases h2
    exact wpAny_pure (h true)
/-- nothing is shown by a search among such tuples -/
theorem unseen {k : List Str} {b : Addr} {Q : Bool → Shared → Prop} (hk : IsS P w s.heap k b) {ys : List Value} (hy : ∀ y ∈ ys, ∃ k' c, y = Value.ref c ∧ IsS P w s.heap k' c) (h : Q false s) :
    wpAny (model P w) A (searchCouldBeSeen (.ref b) ys) Q E s := by
  unfold searchCouldBeSeen
  refine wpAny_bind (wpAny_forIn_list _ (fun left r t => r.1 = none ∧ t = s ∧ ∀ y ∈ left, ∃ k' c, y = Value.ref c ∧ IsS P w s.heap k' c) _ (fun v left r t ⟨h1, h2, h3⟩ => ?_) (fun r t ⟨h1, h2, _⟩ => ?_) _ _ ⟨rfl, rfl, hy⟩)
  · subst h2
    obtain ⟨k', c, rfl, hc⟩ := h3 v (.head _)
    have more : ∀ y ∈ left, ∃ k' c, y = Value.ref c ∧ IsS P w t.heap k' c := fun u hu => h3 u (.tail _ hu)
    dsimp only
    by_cases hv : (b == c || (carriedByValue (.ref b) && carriedByValue (.ref c))) = true
    · exact wp_if_pos hv (wpAny_pure ⟨rfl, rfl, more⟩)
    · refine wp_if_neg hv (wpAny_bind (wpAny_eqIsQuiet_tuple hk ?_))
      simp only [Bool.not_true, Bool.false_eq_true, if_false]
      refine wpAny_bind (wpAny_eqIsQuiet_tuple hc ?_)
      simp only [Bool.not_true, Bool.false_eq_true, if_false]
      refine wpAny_bind (cls_texts hk ?_)
      simp only [Bool.false_eq_true, if_false]
      refine wpAny_bind (cls_texts hc ?_)
      simp only [Bool.false_eq_true, if_false]
      exact wpAny_pure ⟨rfl, rfl, more⟩
  · obtain ⟨r1, r2⟩ := r
    cases h1
    cases h2
    exact wpAny_pure h
end
/-- the set at a has the tuples L, in the order of its places -/
structure SetAt (P : Program) (w : World) (h : Heap) (a : Addr) (L : List (Addr × List Str)) (es : Array (Int × Value)) (ep : Nat) (t : SetTable) : Prop where
  ob : ∃ o, h.get? a = some o ∧ o.ExactSet ∧ o.data = .set es ep t
  rows : es.toList = L.map fun p => (tHash P w p.2, Value.ref p.1)
  tab : TabOk t (L.map fun p => tHash P w p.2)
  nd : (L.map (·.2)).Nodup
  tup : ∀ p ∈ L, IsS P w h p.2 p.1
  m7 : t.mask = 7
  few : L.length ≤ 4
section
variable {P : Program} {w : World} {A : Around} {E : Value → Shared → Prop} {s : Shared} {a x : Addr} {L : List (Addr × List Str)} {es : Array (Int × Value)} {ep : Nat} {t : SetTable} {k : List Str}
theorem SetAt.size {h : Heap} (R : SetAt P w h a L es ep t) : es.size = L.length := by
  have e := congrArg List.length R.rows
  rwa [Array.length_toList, List.length_map] at e
theorem SetAt.places {h : Heap} (R : SetAt P w h a L es ep t) : t.place.size = L.length := by
  have e := R.tab.sz
  rwa [List.length_map] at e
theorem SetAt.fit {h : Heap} (R : SetAt P w h a L es ep t) : t.fits es.size = true := by
  have h1 := R.places
  have h2 := R.size
  have h3 := R.m7
  have h4 := R.few
  unfold SetTable.fits SetTable.fill
  rw [R.tab.dm, Bool.and_eq_true, beq_iff_eq, decide_eq_true_eq]
  exact ⟨by omega, by show t.place.size + 0 ≤ t.mask; omega⟩
theorem SetAt.row {h : Heap} (R : SetAt P w h a L es ep t) {i : Nat} {p : Addr × List Str} (e : L[i]? = some p) : es[i]? = some (tHash P w p.2, Value.ref p.1) := by
  rw [← Array.getElem?_toList, R.rows, List.getElem?_map, e]
  rfl
/-- the c-th step of the way of h -/
abbrev stepAt (t : SetTable) (h : Int) (c : Nat) : SetTable.Probe := nth t.mask (runAt t.mask (SetTable.bits h % (t.mask + 1)) (SetTable.bits h)) c
theorem step_dummy (t : SetTable) (h : Int) : ∀ c, (stepAt t h c).dummy = none := by
  have key : ∀ (n : Nat) (p : SetTable.Probe), p.dummy = none → (nth t.mask p n).dummy = none := fun n => by
    induction n with
    | zero => exact fun p h => h
    | succ n ih =>
      refine fun p h => ih (adv t.mask p) ?_
      unfold adv
      split <;> exact h
  exact fun c => key c _ rfl
theorem look_from (R : SetAt P w s.heap a L es ep t) (hx : IsS P w s.heap k x) (hu : A.units < cLine) {K : Nat} (hKf : K < 10 * SetTable.turns t.mask) (hK : way t.mask (tHash P w k) K ∉ t.place.toList) (hKb : ∀ c, c < K → way t.mask (tHash P w k) c ∈ t.place.toList)
    {Q : SetFound → Shared → Prop} (hin : k ∈ L.map (·.2) → Q (.there none) s) (hout : k ∉ L.map (·.2) → Q (.free (way t.mask (tHash P w k) K) false) s) (f : Nat) :
    ∀ (c : Nat) (stand : Option SetTable.Probe), stand.getD (t.probeStart (tHash P w k)) = stepAt t (tHash P w k) c → c ≤ K → K - c < f →
      (∀ (i : Nat) p, L[i]? = some p → p.2 = k → ∃ c', c ≤ c' ∧ c' < K ∧ t.place.toList[i]? = some (way t.mask (tHash P w k) c')) → wpAny (model P w) A (setSearchFrom a (.ref x) (tHash P w k) true f stand) Q E s := by
  induction f with
  | zero => exact fun c stand _ _ hf _ => absurd hf (Nat.not_lt_zero _)
  | succ f ih =>
    intro c stand hst hc hf hre
    obtain ⟨o, ho, hex, hd⟩ := R.ob
    have shift : ∀ q, nth t.mask (stepAt t (tHash P w k) c) q = stepAt t (tHash P w k) (c + q) := fun q => (nth_add t.mask c _ q).symm
    have shiftj : ∀ q, (nth t.mask (stepAt t (tHash P w k) c) q).j = way t.mask (tHash P w k) (c + q) := fun q => congrArg SetTable.Probe.j (shift q)
    have toK : c + (K - c) = K := by omega
    have hashes : ∀ (i : Nat) p, L[i]? = some p → (fun i => (es[i]?.map (·.1)).getD 0) i = tHash P w p.2 := fun i p hp => by
      show (es[i]?.map (·.1)).getD 0 = _
      rw [R.row hp]
      rfl
    rw [setSearchFrom_succ]
    refine wpAny_bind (wpAny_setState_of ho hd R.fit ?_)
    dsimp only
    refine wp_if_neg (show ¬ t.gaveWay = true by unfold SetTable.gaveWay; rw [R.m7]; decide) ?_
    try refine wpAny_bind (wpAny_pure ?_)
    rcases go_spec t R.tab.ris R.tab.dm (fun i => (es[i]?.map (·.1)).getD 0) (tHash P w k) (10 * SetTable.turns t.mask) (K - c) _ (step_dummy t _ c) (by omega) (fun q hq => by rw [shiftj]; exact hKb _ (by omega)) (by rw [shiftj, toK]; exact hK) with ⟨q, i, hq, hi, hh, hno, hpr⟩ | ⟨hno, hpr⟩
    · have hpr2 : t.probe (fun i => (es[i]?.map (·.1)).getD 0) (tHash P w k) (stand.getD (t.probeStart (tHash P w k))) = some (.candidate (way t.mask (tHash P w k) (c + q)) i (stepAt t (tHash P w k) (c + (q + 1)))) := by
        rw [hst, ← shiftj, ← shift]
        exact hpr
      rw [hpr2]
      dsimp only
      rw [shiftj] at hi
      have hil : i < L.length := by
        have h1 := (List.getElem?_eq_some_iff.mp hi).1
        rw [Array.length_toList, R.places] at h1
        exact h1
      obtain ⟨p, hp⟩ : ∃ p, L[i]? = some p := ⟨_, List.getElem?_eq_getElem hil⟩
      have hmem := List.mem_of_getElem? hp
      have live : t.slot (way t.mask (tHash P w k) (c + q)) = .live i := slot_live R.tab.ris hi
      have rest : wpAny (model P w) A (searchRest a (.ref x) (tHash P w k) true f es t (way t.mask (tHash P w k) (c + q)) i (stepAt t (tHash P w k) (c + (q + 1)))) Q E s := by
        unfold searchRest
        rw [R.row hp]
        dsimp only
        refine wpAny_bind (wpAny_holding (wpAny_eqBool_tuple hu (R.tup p hmem) hx (wpAny_bind (wpAny_setState_of ho hd R.fit ?_))))
        dsimp only
        by_cases hkk : p.2 = k
        · exact wp_if_pos (by simp [hkk]) (wpAny_pure (hin (List.mem_map.mpr ⟨p, hmem, hkk⟩)))
        · refine wp_if_neg (by simp [hkk]) ?_
          try refine wpAny_bind (wpAny_pure ?_)
          rw [sameMem]
          dsimp only
          simp only [if_true, live, R.row hp]
          refine wpAny_bind (wpAny_isSame_ref_self (wpAny_bind (wpAny_pure ?_)))
          simp only [if_true]
          refine wp_if_neg (by simp [hkk]) (ih (c + (q + 1)) _ rfl (by omega) (by omega) fun i0 p0 h0 hk0 => ?_)
          obtain ⟨c', a1, a2, a3⟩ := hre i0 p0 h0 hk0
          refine ⟨c', ?_, a2, a3⟩
          rcases Nat.lt_trichotomy c' (c + q) with z | z | z
          · exact absurd ((hashes i0 p0 h0).trans (congrArg (tHash P w) hk0)) (hno (c' - c) i0 (by omega) (by rw [shiftj, show c + (c' - c) = c' by omega]; exact a3))
          · subst z
            have l2 := slot_live R.tab.ris a3
            rw [live] at l2
            injection l2 with l2
            rw [← l2, hp] at h0
            cases h0
            exact absurd hk0 hkk
          · omega
      by_cases hl : t.led = true
      · refine wp_if_neg (by simp [hl]) ?_
        try refine wpAny_bind (wpAny_pure ?_)
        exact rest
      · refine wp_if_pos (by simp [hl]) (wpAny_bind (unseen hx (fun y hy => ?_) ?_))
        · obtain ⟨e, he, ee⟩ := List.mem_map.mp hy
          have he2 : e ∈ es.toList := by
            have h1 : e ∈ es ∧ e.1 = tHash P w k := by simpa using he
            simpa using h1.1
          rw [R.rows] at he2
          obtain ⟨p2, hp2, e2⟩ := List.mem_map.mp he2
          exact ⟨p2.2, p2.1, by rw [← ee, ← e2], R.tup p2 hp2⟩
        · refine wp_if_neg (by decide) ?_
          try refine wpAny_bind (wpAny_pure ?_)
          exact rest
    · have hpr2 : t.probe (fun i => (es[i]?.map (·.1)).getD 0) (tHash P w k) (stand.getD (t.probeStart (tHash P w k))) = some (.empty (way t.mask (tHash P w k) K) none) := by
        have e2 : way t.mask (tHash P w k) K = (nth t.mask (stepAt t (tHash P w k) c) (K - c)).j := by rw [shiftj, toK]
        rw [hst, e2]
        exact hpr
      rw [hpr2]
      dsimp only
      refine wpAny_pure (hout fun hm => ?_)
      obtain ⟨p0, h0, hk0⟩ := List.mem_map.mp hm
      obtain ⟨i0, hi0, e0⟩ := List.getElem_of_mem h0
      have h00 : L[i0]? = some p0 := by rw [List.getElem?_eq_getElem hi0, e0]
      obtain ⟨c', a1, a2, a3⟩ := hre i0 p0 h00 hk0
      exact hno (c' - c) i0 (by omega) (by rw [shiftj, show c + (c' - c) = c' by omega]; exact a3) ((hashes i0 p0 h00).trans (congrArg (tHash P w) hk0))
theorem look_at (R : SetAt P w s.heap a L es ep t) (hx : IsS P w s.heap k x) (hu : A.units < cLine) {Q : SetFound → Shared → Prop} (hin : k ∈ L.map (·.2) → Q (.there none) s)
    (hout : ∀ K, k ∉ L.map (·.2) → way t.mask (tHash P w k) K ∉ t.place.toList → (∀ c, c < K → way t.mask (tHash P w k) c ∈ t.place.toList) → Q (.free (way t.mask (tHash P w k) K) false) s) :
    wpAny (model P w) A (setSearch a (.ref x) (tHash P w k) true) Q E s := by
  have hm := R.m7
  have hl := R.few
  obtain ⟨K, hKf, hK, hKb⟩ := R.tab.first (by rw [List.length_map]; omega) (tHash P w k)
  have big : 10 * SetTable.turns t.mask < 100000 := by
    unfold SetTable.turns
    omega
  unfold setSearch
  refine look_from R hx hu hKf hK hKb hin (fun hn => hout K hn hK hKb) 100000 0 none rfl (Nat.zero_le _) (by omega) fun i p hp hk => ?_
  have il : i < t.place.toList.length := by
    rw [Array.length_toList, R.places]
    exact (List.getElem?_eq_some_iff.mp hp).1
  have hj := List.getElem?_eq_getElem il
  obtain ⟨c, hc, e⟩ := R.tab.before (h := tHash P w k) hK (by rw [List.getElem?_map, hp, ← hk]; rfl) hj
  exact ⟨c, Nat.zero_le _, hc, by rw [hj, e]⟩
theorem isS_at {h h' : Heap} {o : Obj} (hx : IsS P w h k x) (ho : h.get? a = some o) (hd : o.data = .set es ep t) (hs : Heap.SameBut a h h') : IsS P w h' k x := by
  obtain ⟨o', items, n, ho', r⟩ := hx
  refine ⟨o', items, n, (hs.2 x fun e => ?_).trans ho', r⟩
  subst e
  rw [ho] at ho'
  cases ho'
  rw [hd] at r
  exact nomatch r.2.1
/-- one more is put in, or is there -/
theorem put_in (R : SetAt P w s.heap a L es ep t) (hx : IsS P w s.heap k x) (hu : A.units < cLine) (hf : L.length < 4) {Q : Bool → Shared → Prop}
    (hQ : ∀ b h' L' es' ep' t', Heap.SameBut a s.heap h' → SetAt P w h' a L' es' ep' t' → (k ∈ L.map (·.2) → L' = L) → (k ∉ L.map (·.2) → L'.Perm ((x, k) :: L)) → Q b { s with heap := h' }) :
    wpAny (model P w) A (setAddHashed a (.ref x) (tHash P w k)) Q E s := by
  obtain ⟨o, ho, hex, hd⟩ := R.ob
  have hsl := R.size
  unfold setAddHashed
  refine wpAny_holding ?_
  rw [show (100000 : Nat) = 99999 + 1 from rfl, setAddHashedIn_succ]
  refine wpAny_bind (wpAny_setState_of ho hd R.fit ?_)
  dsimp only
  refine wp_if_neg (by simp [byScan, Value.scannable]) ?_
  try refine wpAny_bind (wpAny_pure ?_)
  refine wpAny_bind (look_at R hx hu (fun hm => wpAny_pure (hQ false s.heap L es ep t (Heap.SameBut.refl a s.heap) R (fun _ => rfl) fun z => absurd hm z)) fun K hm hK hb => ?_)
  dsimp only
  refine wpAny_bind (wpAny_setState_of ho hd R.fit ?_)
  dsimp only
  obtain ⟨q1, q2, q3, q4, q5, q6, q7, q8, q9⟩ := R.tab.put hK hb
  generalize t.put (way t.mask (tHash P w k) K) = pt at q1 q3 q4 q9 ⊢
  obtain ⟨t1, p⟩ := pt
  dsimp only at q1 q3 q4 q9 ⊢
  subst q1
  suffices go : ∀ c : Bool, wpAny (model P w) A (do
      storeSet a (SetTable.insertAt es (SetTable.below t.place (way t.mask (tHash P w k) K)) (tHash P w k, Value.ref x)) (if c = true then t1 else { t1 with plain := false })
      if (!false && (if c = true then t1 else { t1 with plain := false }).tooFull) = true then do
          setRelay a (SetTable.grown (es.size + 1))
          pure true
        else pure true) Q E s by
    by_cases hp : t1.plain = true
    · exact wp_if_pos hp (wpAny_bind (hash_texts hx go))
    · exact wp_if_neg hp (wpAny_bind (wpAny_pure (go true)))
  intro c
  have tb : (if c = true then t1 else { t1 with plain := false }).mask = t1.mask ∧ (if c = true then t1 else { t1 with plain := false }).place = t1.place ∧ (if c = true then t1 else { t1 with plain := false }).dummies = t1.dummies ∧ (if c = true then t1 else { t1 with plain := false }).tooFull = t1.tooFull := by
    cases c <;> exact ⟨rfl, rfl, rfl, rfl⟩
  generalize (if c = true then t1 else { t1 with plain := false }) = t2 at tb ⊢
  obtain ⟨b1, b2, b3, b4⟩ := tb
  generalize SetTable.below t.place (way t.mask (tHash P w k) K) = p at q2 q3 ⊢
  have pm := put_perm L p (x, k)
  have hin : (SetTable.insertAt es p (tHash P w k, Value.ref x)).toList = (L.take p ++ (x, k) :: L.drop p).map fun p => (tHash P w p.2, Value.ref p.1) := by
    rw [SetTable.toList_insertAt, R.rows, List.map_append, List.map_cons, List.map_take, List.map_drop]
  have hhs : (L.map fun p => tHash P w p.2).take p ++ tHash P w k :: (L.map fun p => tHash P w p.2).drop p = (L.take p ++ (x, k) :: L.drop p).map fun p => tHash P w p.2 := by
    rw [List.map_append, List.map_cons, List.map_take, List.map_drop]
  rw [hhs] at q3
  generalize SetTable.insertAt es p (tHash P w k, Value.ref x) = es1 at hin ⊢
  generalize L.take p ++ (x, k) :: L.drop p = L1 at pm q3 hin
  have l1 : L1.length = L.length + 1 := pm.length_eq
  have hes : es1.size = L.length + 1 := by
    have h := congrArg List.length hin
    rw [Array.length_toList, List.length_map, l1] at h
    exact h
  refine wpAny_bind (wpAny_storeSet_of ho hd ?_ (by rw [hes, sizeLine_eq]; omega))
  have sb : Heap.SameBut a s.heap (s.heap.update a (Obj.putSet es1 t2)) := Heap.SameBut.update ..
  have ho1 := store_at (es' := es1) (t' := t2) ho hd
  generalize s.heap.update a (Obj.putSet es1 t2) = h1 at sb ho1 ⊢
  have nf : ¬ t2.tooFull = true := fun h => by
    rw [b4] at h
    unfold SetTable.tooFull at h
    rw [decide_eq_true_eq, q9, List.length_map, q4, R.m7] at h
    omega
  have R1 : SetAt P w h1 a L1 es1 (ep + 1) t2 := by
    refine ⟨⟨_, ho1, ⟨hex.1, hex.2.1, hex.2.2⟩, rfl⟩, hin, ⟨by rw [b2]; exact q3.ris, by rw [b3]; exact q3.dm, by rw [b2]; exact q3.sz, by rw [b1]; exact q3.mok, by rw [b1, b2]; exact q3.bd, by rw [b1, b2]; exact q3.reach⟩, ?_, fun q hq => ?_, by rw [b1, q4]; exact R.m7, by omega⟩
    · rw [(pm.map (·.2)).nodup_iff, List.map_cons]
      exact List.nodup_cons.mpr ⟨hm, R.nd⟩
    · rcases List.mem_cons.mp (pm.mem_iff.mp hq) with e | hq
      · subst e
        exact isS_at hx ho hd sb
      · exact isS_at (R.tup q hq) ho hd sb
  first
    | refine wp_if_neg (by simp [nf]) ?_
    | (refine wpAny_bind ?_; refine wp_if_neg (by simp [nf]) ?_; refine wpAny_pure ?_)
  exact wpAny_pure (hQ true h1 L1 es1 (ep + 1) t2 sb R1 (fun z => absurd z hm) fun _ => pm)
end
end Sw
end

section
set_option Elab.async false
set_option autoImplicit false
set_option linter.all false
set_option maxRecDepth 100000
set_option maxHeartbeats 4000000
namespace Sw
open PySem PySem.Spec PyProof.Rows L2
/-- the tuples that are met first -/
def dedup : List (List Str) → List (List Str)
  | [] => []
  | k :: ks => if k ∈ ks then dedup ks else k :: dedup ks
/-- what the set has of the first i items -/
structure Had (ks : List (Addr × List Str)) (i : Nat) (L : List (Addr × List Str)) : Prop where
  mem : ∀ k, k ∈ L.map (·.2) ↔ k ∈ (ks.take i).map (·.2)
  len : L.length ≤ i
theorem Had.next {ks L L' : List (Addr × List Str)} {i : Nat} {x : Addr × List Str} (g : Had ks i L) (h : ks[i]? = some x) (c1 : x.2 ∈ L.map (·.2) → L' = L) (c2 : x.2 ∉ L.map (·.2) → L'.Perm (x :: L)) : Had ks (i + 1) L' := by
  have e : ks.take (i + 1) = ks.take i ++ [x] := by
    rw [List.take_succ, h]
    rfl
  by_cases c : x.2 ∈ L.map (·.2)
  · rw [c1 c]
    refine ⟨fun k => ?_, Nat.le_succ_of_le g.len⟩
    rw [e, List.map_append, List.mem_append, ← g.mem]
    constructor
    · exact .inl
    · rintro (z | z)
      · exact z
      · rw [List.map_singleton, List.mem_singleton] at z
        rw [z]
        exact c
  · have pm := c2 c
    refine ⟨fun k => ?_, by rw [pm.length_eq, List.length_cons]; exact Nat.succ_le_succ g.len⟩
    rw [(pm.map (·.2)).mem_iff, e, List.map_cons, List.mem_cons, List.map_append, List.mem_append, ← g.mem, List.map_singleton, List.mem_singleton]
    exact or_comm
section
variable {P : Program} {w : World} {A : Around} {E : Value → Shared → Prop} {s : Shared}
theorem isS_more {h h' : Heap} {k : List Str} {b : Addr} (x : IsS P w h k b) (hk : ∀ c o, h.get? c = some o → h'.get? c = some o) : IsS P w h' k b :=
  let ⟨o, items, n, ho, r⟩ := x
  ⟨o, items, n, hk b o ho, r⟩
theorem SetAt.more {h h' : Heap} {a : Addr} {L : List (Addr × List Str)} {es : Array (Int × Value)} {ep : Nat} {t : SetTable} (R : SetAt P w h a L es ep t) (ha : ∀ o, h.get? a = some o → h'.get? a = some o) (ht : ∀ p ∈ L, IsS P w h' p.2 p.1) : SetAt P w h' a L es ep t :=
  let ⟨o, ho, r⟩ := R.ob
  ⟨⟨o, ha o ho, r⟩, R.rows, R.tab, R.nd, ht, R.m7, R.few⟩
theorem setAt_new {h : Heap} {a : Addr} {b : Bool} (ho : h.get? a = some { cls := .type "set", dict := none, data := .set #[] 0 (.fresh 0 0 b) }) : SetAt P w h a [] #[] 0 (.fresh 0 0 b) :=
  ⟨⟨_, ho, ⟨rfl, rfl, rfl⟩, rfl⟩, rfl, ⟨.nil, rfl, rfl, .inl rfl, (fun _ h => by cases h), fun i h j hi => by cases hi⟩, List.nodup_nil, fun _ h => (nomatch h), rfl, Nat.zero_le _⟩
/-- the items are taken one by one -/
theorem fill_loop {I : Addr} {fp wr : List Addr} {Gn : Array GenState → Array GenState → Prop} {n : Nat} {Pv : Nat → Value → Prop} {St : Nat → Shared → Prop} {R : Result → Shared → Prop} (W : WalksS P w A.in1 I fp wr Gn n Pv St) (S : Addr) (hSf : S ∉ fp)
    (ks : List (Addr × List Str)) (hn : n = ks.length) (hfew : ks.length ≤ 4) (hval : ∀ i v, Pv i v → ∃ p, ks[i]? = some p ∧ v = .ref p.1) (h0 : Heap) (hk : ∀ p ∈ ks, IsS P w h0 p.2 p.1) (hS0 : h0.get? S = none) (hw0 : ∀ b ∈ wr, h0.get? b = none) (hu : A.in1.units < cLine) (todo : Nat) :
    ∀ (i : Nat) (s : Shared), n - i = todo → i ≤ n → St i s → (∀ b o, h0.get? b = some o → s.heap.get? b = some o) → (∃ L es ep t, SetAt P w s.heap S L es ep t ∧ (∀ p ∈ L, p ∈ ks) ∧ Had ks i L) →
      (∀ s' L es ep t, Moved (S :: wr) Gn s s' → SetAt P w s'.heap S L es ep t → Had ks n L → (∀ b o, h0.get? b = some o → s'.heap.get? b = some o) → R (.ok (.ret .none)) s') →
      codeAny (model P w) A (.builtin "set.update.loop" ⟨[.ref S, .ref I], []⟩) R s := by
  have Sw : S ∉ wr := fun h => hSf (W.sub _ h)
  have up : ∀ {s s' : Shared}, Moved wr Gn s s' → Moved (S :: wr) Gn s s' := fun m => m.mono fun b hb => .tail _ hb
  have held : ∀ {s s' : Shared}, Moved wr Gn s s' → (∀ b o, h0.get? b = some o → s.heap.get? b = some o) → ∀ b o, h0.get? b = some o → s'.heap.get? b = some o := fun m k b o e =>
    m.heap b o (fun hb => by rw [hw0 b hb] at e; cases e) (k b o e)
  have stand : ∀ {s s' : Shared} {L : List (Addr × List Str)} {es : Array (Int × Value)} {ep : Nat} {t : SetTable}, Moved wr Gn s s' → (∀ b o, h0.get? b = some o → s'.heap.get? b = some o) → (∀ p ∈ L, p ∈ ks) → SetAt P w s.heap S L es ep t → SetAt P w s'.heap S L es ep t :=
    fun m k sub R => R.more (fun o e => m.heap S o Sw e) fun q hq => isS_more (hk q (sub q hq)) k
  induction todo with
  | zero =>
    intro i s ht hi hst hkp ⟨L, es, ep, t, hS, sub, g⟩ hR
    obtain rfl : i = n := by omega
    refine codeAny_builtin F.entry_set_update_loop ?_
    rw [Around.under_plainId F.plain_set_update_loop _]
    refine wpAny_bind (m := pyNext (.ref I)) (W.done s _ _ hst fun s' m => ?_)
    show wpAny _ A.in1 (ret Value.none) _ _ s'
    exact wpAny_pure (hR s' L es ep t (up m) (stand m (held m hkp) sub hS) g (held m hkp))
  | succ todo ih =>
    intro i s ht hi hst hkp ⟨L, es, ep, t, hS, sub, g⟩ hR
    have lt : i < n := by omega
    refine codeAny_builtin F.entry_set_update_loop ?_
    rw [Around.under_plainId F.plain_set_update_loop _]
    refine wpAny_bind (m := pyNext (.ref I)) (W.item i s _ _ lt hst fun v s' hP hst' m => ?_)
    obtain ⟨p, hp, rfl⟩ := hval i v hP
    have pm := List.mem_of_getElem? hp
    have kp := held m hkp
    have hx : IsS P w s'.heap p.2 p.1 := isS_more (hk p pm) kp
    show wpAny _ A.in1 (holding [Value.ref p.1] (setAdd S (.ref p.1)) >>= _) _ _ s'
    refine wpAny_bind (wpAny_holding ?_)
    unfold setAdd
    refine wpAny_holding (wpAny_bind (wpAny_pyHash_tuple hu hx ?_))
    refine put_in (s := { s' with toks := s'.toks + (p.2.length + 1) }) (show SetAt P w s'.heap S L es ep t from stand m kp sub hS) hx hu (by have := g.len; omega) fun b h' L' es' ep' t' sb hS2 c1 c2 => ?_
    have sub' : ∀ q ∈ L', q ∈ ks := fun q hq => by
      by_cases c : p.2 ∈ L.map (·.2)
      · rw [c1 c] at hq
        exact sub q hq
      · rcases List.mem_cons.mp ((c2 c).mem_iff.mp hq) with e | hq
        · rw [e]
          exact pm
        · exact sub q hq
    have kp2 : ∀ b o, h0.get? b = some o → h'.get? b = some o := fun b o e => (sb.2 b (fun z => by rw [z, hS0] at e; cases e)).trans (kp b o e)
    refine wpAny_pure ⟨plainId_quiet F.plain_set_update_loop _, ih (i + 1) _ (by omega) lt (W.frame _ s' _ _ hst' (Nat.le_add_right _ _) fun b hb o e => ?_) kp2 ⟨L', es', ep', t', hS2, sub', g.next hp c1 c2⟩ fun s2 L2 es2 ep2 t2 m2 hS3 g2 kp3 => ?_⟩
    · exact (sb.2 b fun (z : b = S) => hSf (z ▸ hb)).trans e
    · refine hR s2 L2 es2 ep2 t2 (Moved.trans W.gtrans ((up m).then_heap (Nat.le_add_right _ _) fun b o hb e => ?_) m2) hS3 g2 kp3
      exact (sb.2 b fun (z : b = S) => hb (z ▸ .head _)).trans e
/-- the call -/
theorem set_texts {l : Addr} {items : Array Value} (ks : List (Addr × List Str)) {Q : Value → Shared → Prop} (hh : A.handled = none) (hl : s.heap.IsList l items) (hit : items.toList = ks.map fun p => Value.ref p.1) (hk : ∀ p ∈ ks, IsS P w s.heap p.2 p.1) (hfew : ks.length ≤ 4) (hu : A.units + 3 < cLine)
    (h : ∀ (h' : Heap) (tk : Nat) L es ep t, SetAt P w h' s.heap.objs.size L es ep t → Had ks ks.length L → (∀ b o, s.heap.get? b = some o → h'.get? b = some o) → Q (.ref s.heap.objs.size) { s with heap := h', toks := tk }) : wpAny (model P w) A (call (.type "set") [.ref l]) Q E s := by
  have nitems : items.size = ks.length := by
    have q := congrArg List.length hit
    rwa [Array.length_toList, List.length_map] at q
  obtain ⟨c, tl, hmro⟩ := F.called_set.mro
  have hmade := F.called_set.made
  have hsub := F.called_set.sub
  refine wpAny_call (codeAny_of_tree ?_)
  show wpAny _ _ (callAny (.type "set") _) _ _ _
  refine wpAny_pure ⟨Code.quiet_builtin _ (by decide +kernel), codeAny_builtin F.entry_type_call ?_⟩
  rw [Around.under_plain (weight_type_call_type "set" [.ref l] []) rfl]
  have h1 := F.called_set.notType
  have h2 := F.called_set.canCreate
  have hct := F.typeCall_set_1 (.ref l)
  repeat (any_goals (first | assumption | wp_step))
  refine codeAny_mono (code_set_led1 (.ref l) (E := E) (Q₁ := fun obj s₁ => obj = .ref s.heap.objs.size ∧ s₁ = { s with heap := s.heap.push { cls := .type "set", dict := none, data := .set #[] 0 (.fresh 0 0 (!w.params.followText "set-order")) } }) ⟨rfl, rfl⟩) fun r s₁ hr => ?_
  cases r with
  | error e => exact hr
  | ok fl =>
    cases fl with
    | ret obj =>
      obtain ⟨rfl, rfl⟩ := hr
      have hS : (s.heap.push { cls := .type "set", dict := none, data := .set #[] 0 (.fresh 0 0 (!w.params.followText "set-order")) }).get? s.heap.objs.size = some { cls := .type "set", dict := none, data := .set #[] 0 (.fresh 0 0 (!w.params.followText "set-order")) } := Heap.get?_push_size _ rfl
      have hT : Shared.TypeIs { s with heap := s.heap.push { cls := .type "set", dict := none, data := .set #[] 0 (.fresh 0 0 (!w.params.followText "set-order")) } } (.ref s.heap.objs.size) "set" := ⟨_, hS, rfl⟩
      have hli := F.called_set.init.lookup
      have hbi := F.called_set.init.bind (.ref s.heap.objs.size)
      repeat (any_goals (first | assumption | wp_step))
      refine codeAny_mono (codeAny_call_builtin (R := wants (fun r s₂ => r = .none ∧ ∃ h' tk L es ep t, s₂ = { s with heap := h', toks := tk } ∧ SetAt P w h' s.heap.objs.size L es ep t ∧ Had ks ks.length L ∧ (∀ b o, s.heap.get? b = some o → h'.get? b = some o)) E) F.called_set.init.plain F.entry_set_init (check_set_init_1 hT ?_)) fun r₂ s₂ hr₂ => ?_
      · obtain ⟨⟨ocls, odict, odata, oslots⟩, hol, hcl, nl, hdl⟩ := hl
        simp only at hcl hdl
        subst hcl hdl
        generalize hp1 : s.heap.push { cls := .type "set", dict := none, data := .set #[] 0 (.fresh 0 0 (!w.params.followText "set-order")) } = hp at hS hT ⊢
        have old : ∀ b o, s.heap.get? b = some o → hp.get? b = some o := fun b o e => by
          rw [← hp1]
          exact Heap.get?_push_of_some _ e
        have hz1 : hp.objs.size = s.heap.objs.size + 1 := by rw [← hp1]; exact Heap.size_push ..
        have hol' := old _ _ hol
        have hl1 : hp.IsList l items := ⟨_, hol', rfl, nl, rfl⟩
        have f1 := F.sub_list_set
        have f2 := F.sub_list_frozenset
        have f3 : (Value.type "list" == Value.type "dict") = false := by decide
        unfold Builtin.«set.__init__» noKeywords Builtin.Frozenset.updateFrom
        generalize hPI : pyIter = PI
        wp_walk
        subst hPI
        refine wpAny_pyIter_list hl1 (wpAny_bind (wpAny_runValue ?_))
        have lS : l < s.heap.objs.size := Heap.lt_size hol
        have hh3 : A.in1.in1.in1.handled = none := by simp [hh]
        have fresh : ∀ b, s.heap.objs.size ≤ b → s.heap.get? b = none := fun b hb => by
          cases q : s.heap.get? b with
          | none => rfl
          | some o => exact absurd (Nat.lt_of_lt_of_le (Heap.lt_size q) hb) (Nat.lt_irrefl _)
        have val : ∀ (i : Nat) (v : Value), items[i]? = some v → ∃ p, ks[i]? = some p ∧ v = .ref p.1 := fun i v hv => by
          have q : items.toList[i]? = some v := by rw [Array.getElem?_toList]; exact hv
          rw [hit, List.getElem?_map] at q
          cases hq : ks[i]? with
          | none => rw [hq] at q; cases q
          | some p =>
            rw [hq] at q
            cases q
            exact ⟨p, rfl, rfl⟩
        refine fill_loop ((Walks.list hh3 _ l (show l ≠ hp.objs.size by rw [hz1]; exact Nat.ne_of_lt (Nat.lt_succ_of_lt lS)) items).toS) s.heap.objs.size (by
          simp only [List.mem_cons, List.not_mem_nil, or_false, not_or]
          rw [hz1]
          exact ⟨Nat.ne_of_lt (Nat.lt_succ_self _), Nat.ne_of_gt lS⟩) ks nitems hfew val s.heap hk (fresh _ (Nat.le_refl _)) (fun b hb => fresh b (by
            rw [List.mem_singleton.mp hb, hz1]
            exact Nat.le_succ _)) hu (items.size - 0) 0 _ (by omega) (Nat.zero_le _) ⟨⟨_, Heap.get?_push_size _ rfl, rfl, rfl⟩, hl1.push _⟩ (fun b o e => Heap.get?_push_of_some _ (old b o e)) ?start ?fin
        case start =>
          have g1 : (hp.push { cls := .type "list_iterator", data := .fields #[.ref l, .int 0 0] }).get? s.heap.objs.size = some { cls := .type "set", dict := none, data := .set #[] 0 (.fresh 0 0 (!w.params.followText "set-order")) } := Heap.get?_push_of_some _ hS
          exact ⟨[], #[], 0, _, setAt_new g1, fun p h => (by cases h), fun k => by simp, Nat.le_refl _⟩
        case fin =>
          intro s' L es ep t m hS' g' kp
          obtain ⟨h', g2, d', tk', os'⟩ := s'
          have eg : g2 = s.gens := m.gens
          have ed : d' = s.drawn := m.drawn
          have eo : os' = s.os := m.os
          subst eg; subst ed; subst eo
          refine wpAny_pure ?_
          show wpAny _ _ (ret Value.none) _ _ _
          rw [nitems] at g'
          exact wpAny_pure ⟨rfl, h', tk', L, es, ep, t, rfl, hS', g', kp⟩
      · cases r₂ with
        | error e => exact hr₂
        | ok fl₂ =>
          cases fl₂ with
          | ret r =>
            obtain ⟨rfl, h', tk, L, es, ep, t, rfl, hS', g', hk'⟩ := hr₂
            repeat (any_goals (first | assumption | wp_step))
            exact h _ _ _ _ _ _ hS' g' hk'
          | _ => exact hr₂.elim
    | _ => exact hr.elim
end
end Sw
end

section
set_option Elab.async false
set_option autoImplicit false
set_option linter.all false
set_option maxRecDepth 100000
set_option maxHeartbeats 4000000
namespace Sw
open PySem PySem.Spec PyProof.Rows L2
theorem many_iff {ls : List (List Str)} (nd : ls.Nodup) : 1 < ls.length ↔ ∃ k ∈ ls, ∃ k' ∈ ls, k ≠ k' := by
  match ls, nd with
  | [], _ => simp
  | [a], _ => simp
  | a :: b :: r, nd =>
    refine ⟨fun _ => ⟨a, by simp, b, by simp, fun e => ?_⟩, fun _ => by simp⟩
    subst e
    exact (List.nodup_cons.mp nd).1 (.head _)
theorem items_of_texts {P : Program} {w : World} : ∀ {k : List Str} {us : List Value}, Vals (k.map V.str) us → ItemsAre (PySem.strKind P w) k us
  | [], _, .nil => .nil
  | x :: k, _, .cons r t => by
    obtain ⟨tk, rfl⟩ := r
    exact .cons (by simp [PySem.strKind, Value.isStrOf]) (items_of_texts t)
def tLenSet (K : PySem.W.Frag) (ta : TE) : TE := fun σ H Q => ta σ H fun x H1 => ∃ (l : Addr) (ks : List (Addr × List Str)), x = V.ref l ∧ SqL K H1 l (ks.map fun p => V.ref p.1) ∧ (∀ p ∈ ks, SqT K H1 p.1 (p.2.map V.str)) ∧ ks.length ≤ 4 ∧
  ∀ n : Nat, (1 < n ↔ ∃ p ∈ ks, ∃ q ∈ ks, p.2 ≠ q.2) → Q (.int n) H1
section
variable {X : Cx}
theorem pe_lenSet {a : Expr} {ta : TE} {p p2 q pos : Pos} (hh : X.A.handled = none) (hu : X.A.units + 64 < cLine) (hm : X.mg "len" = none) (hm2 : X.mg "set" = none) (ha : PE X a ta) (hg : Gl X "len" := by rfl) (hg2 : Gl X "set" := by rfl)
    (na : starEach [a] X.env = (false, eval a X.env) :: starEach [] X.env := by rfl) : PE X (.Call (.Name "len" p) [.Call (.Name "set" p2) [a] [] q] [] pos) (tLenSet X.K ta) := by
  refine ⟨fun pins s σ H Q I h => ?_⟩
  refine Call_ (ld_blt I hg hm PySem.boot_len ?_)
  refine PyProof.Rows.callWith_builtin1 (PyProof.Rows.args_cons ?_ rfl) rfl rfl
  refine Call_ (ld_blt I hg2 hm2 PyProof.Rows.boot_set ?_)
  refine PyProof.Rows.callWith_type1 (PyProof.Rows.args_cons (thn (ha.run pins s σ H _ I h) fun v s1 ⟨x, H1, I1, r1, l, ks, ex, hq, hk, hf, k⟩ => PyProof.Rows.args_nil ?_) na) na rfl
  subst ex
  obtain rfl : v = Value.ref l := r1
  obtain ⟨its, r, pl, hz⟩ := I1.list hq
  have hits : its = ks.map fun p => Value.ref p.1 := by
    have key : ∀ {ks : List (Addr × List Str)} {its : List Value}, Vals (ks.map fun p => V.ref p.1) its → its = ks.map fun p => Value.ref p.1 := fun {ks} => by
      induction ks with
      | nil => intro its r; cases r; rfl
      | cons p ks ih =>
        intro its r
        cases r with
        | cons r t => rw [ih t, show _ = Value.ref p.1 from r]; rfl
    exact key r
  refine set_texts ks hh pl.isList (by simpa using hits) (fun p hp => ?_) hf (by omega) fun h' tk L es ep t R g old => ?_
  · obtain ⟨its2, r2, ⟨o, ho, hc, n, hd⟩, _⟩ := I1.tuple (hk p hp)
    exact ⟨o, its2.toArray, n, ho, hc, hd, by simpa using items_of_texts r2⟩
  · refine PyProof.Rows.args_nil ?_
    obtain ⟨o, ho, hex, hd⟩ := R.ob
    have I2 : Inv X pins σ H1 { s1 with heap := h', toks := tk } := I1.kept old
    have hn := R.size
    have hl : 1 < es.size ↔ ∃ p ∈ ks, ∃ q ∈ ks, p.2 ≠ q.2 := by
      have e := many_iff R.nd
      rw [List.length_map, ← hn] at e
      rw [e]
      have m := g.mem
      rw [List.take_length] at m
      constructor
      · rintro ⟨k1, h1, k2, h2, ne⟩
        obtain ⟨p, hp, rfl⟩ := List.mem_map.mp ((m k1).mp h1)
        obtain ⟨q, hq, rfl⟩ := List.mem_map.mp ((m k2).mp h2)
        exact ⟨p, hp, q, hq, ne⟩
      · rintro ⟨p, hp, q, hq, ne⟩
        exact ⟨p.2, (m _).mpr (List.mem_map.mpr ⟨p, hp, rfl⟩), q.2, (m _).mpr (List.mem_map.mpr ⟨q, hq, rfl⟩), ne⟩
    refine call_len_set ho hex hd R.fit (by have := R.few; rw [hn]; omega) ⟨.int es.size, H1, I2.tok _, ⟨_, rfl⟩, k es.size hl⟩
end
section
variable {S : Sc} {ρ : List Sl} {te : TE}
theorem dql_pats {G : Gx} {B : Addr → Prop} {H : Hp} : ∀ {kss : List (List Str)} {vs : List V}, DqL G B H vs (kss.map fun k => D.tup (k.map D.str)) → ∃ ks : List (Addr × List Str), ks.map (·.2) = kss ∧ vs = ks.map (fun p => V.ref p.1) ∧ ∀ p ∈ ks, SqT G.K H p.1 (p.2.map V.str)
  | [], vs, h => by
    cases h
    exact ⟨[], rfl, rfl, fun _ h => nomatch h⟩
  | k :: kss, vs, h => by
    cases h with
    | cons h r =>
      obtain ⟨a, xs, rfl, h1, h2⟩ := dq_tup h
      rw [dql_strs h2] at h1
      obtain ⟨ks, e1, e2, e3⟩ := dql_pats r
      refine ⟨(a, k) :: ks, by rw [List.map_cons, e1], by rw [e2]; rfl, fun p hp => ?_⟩
      rcases List.mem_cons.mp hp with e | hp
      · rw [e]
        exact h1
      · exact e3 p hp
theorem we_lenSet {Q : D → Prop} (h : WE S te ρ fun d => ∃ kss : List (List Str), d = .lst (kss.map fun k => D.tup (k.map D.str)) ∧ kss.length ≤ 4 ∧ ∀ n : Nat, (1 < n ↔ ∃ k ∈ kss, ∃ k' ∈ kss, k ≠ k') → Q (.int n)) : WE S (tLenSet S.G.K te) ρ Q := fun σ H R Qv k =>
  h σ H R _ fun v H1 d e1 q1 ⟨kss, ed, hf, hq⟩ => by
    subst ed
    obtain ⟨a, xs, rfl, h1, n, r⟩ := dq_lst q1
    obtain ⟨ks, ek, ev, ht⟩ := dql_pats r
    subst ek
    refine ⟨a, ks, rfl, by rw [← ev]; exact SqL.of h1, ht, by simpa using hf, fun n hn => k _ H1 _ e1 (.int _) (hq n (hn.trans ⟨fun ⟨p, hp, q, hq, ne⟩ => ⟨p.2, List.mem_map.mpr ⟨p, hp, rfl⟩, q.2, List.mem_map.mpr ⟨q, hq, rfl⟩, ne⟩, fun ⟨k1, h1, k2, h2, ne⟩ => ?_⟩))⟩
    obtain ⟨p, hp, rfl⟩ := List.mem_map.mp h1
    obtain ⟨q, hq, rfl⟩ := List.mem_map.mp h2
    exact ⟨p, hp, q, hq, ne⟩
end
end Sw
end

section
set_option Elab.async false
set_option autoImplicit false
set_option linter.all false
set_option maxRecDepth 100000
set_option maxHeartbeats 4000000
namespace Sw
open PySem PySem.Spec PyProof.Rows L2 PySem.W
abbrev lx (a b : List Int) : Bool := HT.lexLt a b
theorem toks_ints : ∀ a b : List Int, PyProof.Rows.lexLt itemOrd (keyToksAll (a.map PyData.int)) (keyToksAll (b.map PyData.int)) = lx a b
  | [], [] => by
    show PyProof.Rows.lexLt itemOrd [.inl 0] [.inl 0] = false
    exact lex_irrefl _
  | [], y :: ys => by
    show PyProof.Rows.lexLt itemOrd [.inl 0] (.inl 1 :: _) = true
    rw [lex_diff (by decide)]
    rfl
  | x :: xs, [] => by
    show PyProof.Rows.lexLt itemOrd (.inl 1 :: _) [.inl 0] = false
    rw [lex_diff (by decide)]
    rfl
  | x :: xs, y :: ys => by
    show PyProof.Rows.lexLt itemOrd (.inl 1 :: .inl x :: _) (.inl 1 :: .inl y :: _) = _
    rw [lex_self]
    show _ = HT.lexLt (x :: xs) (y :: ys)
    rw [HT.lexLt_cons]
    by_cases e : x = y
    · subst e
      rw [lex_self, if_pos rfl]
      exact toks_ints xs ys
    · rw [lex_diff (fun z => e (Sum.inl.inj z)), if_neg e]
      rfl
theorem le_kP (a b : List Int) : dataLe false kP a b = !lx b a := by
  show (!PyProof.Rows.lexLt itemOrd (keyToks (kP b)) (keyToks (kP a))) = _
  have h : ∀ c : List Int, keyToks (kP c) = keyToksAll (c.map PyData.int) := fun c => by unfold kP; rw [keyToks]
  rw [h, h, toks_ints]
theorem pyT_ints : ∀ a : List Int, pyT (.tup (a.map D.int)) = kP a := fun a => by
  have h : ∀ a : List Int, pyTs (a.map D.int) = a.map PyData.int := fun a => by
    rw [pyTs_map, List.map_map]
    exact List.map_congr_left fun x _ => by simp [pyT]
  unfold kP
  rw [pyT, h]
theorem leD_ints (a b : List Int) : leD (.tup (a.map D.int)) (.tup (b.map D.int)) = !lx b a := by
  show dataLe false pyT _ _ = _
  rw [← le_kP]
  show (!PyProof.Rows.lexLt itemOrd (keyToks (pyT _)) (keyToks (pyT _))) = (!PyProof.Rows.lexLt itemOrd (keyToks (kP b)) (keyToks (kP a)))
  rw [pyT_ints, pyT_ints]
theorem lx_tri : ∀ {a b : List Int}, lx a b = false → lx b a = false → a = b
  | [], [], _, _ => rfl
  | [], _ :: _, h, _ => by cases h
  | _ :: _, [], _, h => by cases h
  | x :: xs, y :: ys, h1, h2 => by
    have h1' : HT.lexLt (x :: xs) (y :: ys) = false := h1
    have h2' : HT.lexLt (y :: ys) (x :: xs) = false := h2
    rw [HT.lexLt_cons] at h1' h2'
    by_cases e : x = y
    · subst e
      rw [if_pos rfl] at h1' h2'
      rw [lx_tri h1' h2']
    · rw [if_neg e] at h1'
      rw [if_neg (Ne.symm e)] at h2'
      simp at h1' h2'
      omega
/-- the order that sorted goes by -/
structure Lin {α : Type} (le : α → α → Bool) : Prop where
  tr : ∀ a b c, le a b = true → le b c = true → le a c = true
  to : ∀ a b, (le a b || le b a) = true
theorem lin_data {α : Type} (k : α → PyData) : Lin (dataLe false k) := by
  have h := sortLe_total (listOrd itemOrd) false fun b => keyToks (k b)
  exact ⟨h.trans, fun a b => by rw [Bool.or_eq_true]; exact h.total a b⟩
theorem srt_pw {α : Type} {le : α → α → Bool} (h : Lin le) (xs : List α) : (xs.mergeSort le).Pairwise fun a b => le a b = true := List.pairwise_mergeSort h.tr h.to xs
theorem srt_perm {α : Type} (le : α → α → Bool) (xs : List α) : (xs.mergeSort le).Perm xs := List.mergeSort_perm xs le
/-- two lists of the same things, none of two alike in the order: sorted the same -/
theorem srt_same {α : Type} {le : α → α → Bool} (h : Lin le) {xs ys : List α} (p : xs.Perm ys) (anti : ∀ a ∈ xs, ∀ b ∈ xs, le a b = true → le b a = true → a = b) : xs.mergeSort le = ys.mergeSort le := by
  refine List.Perm.eq_of_pairwise (fun a b ha hb h1 h2 => anti a ((srt_perm _ _).mem_iff.mp ha) b (p.mem_iff.mpr ((srt_perm _ _).mem_iff.mp hb)) h1 h2) (srt_pw h xs) (srt_pw h ys) ?_
  exact ((srt_perm le xs).trans p).trans (srt_perm le ys).symm
/-- a list that stands sorted -/
theorem srt_id {α : Type} {le : α → α → Bool} (h : Lin le) {xs : List α} (p : xs.Pairwise fun a b => le a b = true) : xs.mergeSort le = xs := List.mergeSort_of_pairwise p
theorem pw_zip {α : Type} {R : α → α → Prop} : ∀ {xs : List α}, xs.Pairwise R → ∀ z ∈ xs.zip (xs.drop 1), R z.1 z.2
  | [], _, z, hz => by simp at hz
  | [x], _, z, hz => by simp at hz
  | x :: y :: xs, h, z, hz => by
    rw [List.drop_one, List.tail_cons, List.zip_cons_cons] at hz
    rcases List.mem_cons.mp hz with e | e
    · subst e
      exact (List.pairwise_cons.mp h).1 y (by simp)
    · exact pw_zip (List.pairwise_cons.mp h).2 z (by rw [List.drop_one, List.tail_cons]; exact e)
end Sw
end

section
set_option Elab.async false
set_option autoImplicit false
set_option linter.all false
set_option maxRecDepth 100000
set_option maxHeartbeats 4000000
namespace Sw
open PySem PySem.Spec PyProof.Rows L2
/-- each item of the second list goes with the one of the first -/
inductive Fits {α β : Type} (P : α → β → Prop) : List α → List β → Prop
  | nil : Fits P [] []
  | cons {a : α} {b : β} {as : List α} {bs : List β} : P a b → Fits P as bs → Fits P (a :: as) (b :: bs)
theorem Fits.snoc {α β : Type} {P : α → β → Prop} {a : α} {b : β} : ∀ {as : List α} {bs : List β}, Fits P as bs → P a b → Fits P (as ++ [a]) (bs ++ [b])
  | _, _, .nil, h => .cons h .nil
  | _, _, .cons h t, q => .cons h (t.snoc q)
theorem Fits.length {α β : Type} {P : α → β → Prop} : ∀ {as : List α} {bs : List β}, Fits P as bs → as.length = bs.length
  | _, _, .nil => rfl
  | _, _, .cons _ t => congrArg Nat.succ t.length
theorem Fits.map_ {α β γ : Type} {P : α → β → Prop} {f : γ → β} (h : ∀ a b, P a b → ∃ c, b = f c) : ∀ {as : List α} {bs : List β}, Fits P as bs → ∃ cs : List γ, bs = cs.map f ∧ Fits (fun a c => P a (f c)) as cs
  | _, _, .nil => ⟨[], rfl, .nil⟩
  | _, _, .cons p t => by
    obtain ⟨c, rfl⟩ := h _ _ p
    obtain ⟨cs, rfl, t'⟩ := t.map_ h
    exact ⟨c :: cs, rfl, .cons p t'⟩
theorem Fits.all {α β : Type} {P : α → β → Prop} {R : β → Prop} (h : ∀ a b, P a b → R b) : ∀ {as : List α} {bs : List β}, Fits P as bs → ∀ b ∈ bs, R b
  | _, _, .nil, b, hb => by cases hb
  | _, _, .cons p t, b, hb => by
    rcases List.mem_cons.mp hb with e | e
    · subst e
      exact h _ _ p
    · exact t.all h b e
section
variable {S : Sc} {ρ : List Sl} {te : TE} {wi : TI}
theorem wn_lcP {α : Type} {j : Nat} {Q : List D → Prop} (hj : ∃ s, ρ[j]? = some s ∧ s.ads = []) (h : WI S wi ρ fun ds => ∃ (zs : List α) (f : α → D) (P : α → D → Prop), ds = zs.map f ∧
    (∀ z ∈ zs, ∀ p, WE (S.in p) te (ρ.set j (.d (f z))) fun y => P z y) ∧ ∀ acc, Fits P zs acc → Q acc) :
    WN S (tLc wi (gName j) tYes te [j]) ρ Q := by
  obtain ⟨s, hs, ha⟩ := hj
  refine wn_lc (js := [j]) (fun _ h => h) (owns_setno hs ha) fun σ H R Rr k => h σ H R Rr fun J H' vs es ds e q dw sz ⟨zs, f, P, ed, hz, hq⟩ => k J H' vs es ds e q dw sz ?_
  subst ed
  refine ⟨fun pre acc => Fits P (zs.take pre.length) acc, by simpa using Fits.nil, fun p pre x post acc e2 hI => ?_, fun acc hI => ?_⟩
  · obtain ⟨zp, z, zq, e4, e5, e6, e7⟩ := map_split e2
    obtain ⟨t1, t2⟩ := take_pre e4 e5 x
    dsimp only at hI
    rw [t1] at hI
    subst e6
    have hm : z ∈ zs := by rw [e4]; simp
    refine wg_name ?_
    have es : (wipeR ρ [j]).set j (.d (f z)) = ρ.set j (.d (f z)) := set_set_no
    rw [es]
    refine ⟨owns_set_ads hs (by rw [ha]; rfl), wt_yes (ift ((hz z hm p).mono fun y hy => ?_))⟩
    dsimp only
    rw [t2]
    exact hI.snoc hy
  · dsimp only at hI
    rw [List.length_map, List.take_length] at hI
    exact hq acc hI
end
end Sw
end

section
set_option Elab.async false
set_option autoImplicit false
set_option linter.all false
namespace Sw
open PySem PySem.Spec PyProof.Rows L2
abbrev F__law_draw : FD := F_draw
abbrev sp__law_draw (G : Gx) : Sp := spD G 2 F__law_draw
/-- one of some -/
def F__law_pick : FD := fun ds Q => ∃ (d : D) (xs : List D), ds = [.dk, d] ∧ itemsD d = some xs ∧ xs ≠ [] ∧ xs.length ≤ 1000 ∧ ∀ x ∈ xs, Q x
abbrev sp__law_pick (G : Gx) : Sp := spD G 2 F__law_pick
/-- so many of some, in some order -/
def F__law_some : FD := fun ds Q => ∃ (d : D) (xs : List D) (many : Nat), ds = [.dk, d, .int many] ∧ itemsD d = some xs ∧ many ≤ xs.length ∧ xs.length ≤ 1000 ∧ ∀ ys, (∃ rest, xs.Perm (ys ++ rest)) → ys.length = many → Q (.lst ys)
abbrev sp__law_some (G : Gx) : Sp := spD G 3 F__law_some
/-- names as the law makes them -/
structure NsOk (ns : List Str) : Prop where
  nm : ∀ x ∈ ns, isNm x = true
  nd : ns.Nodup
  nw : ∀ x ∈ ns, x ∉ words
  ok : ∀ x ∈ ns, sOk x
def F__law_names : FD := fun ds Q => ds = [.dk, .int 16] ∧ ∀ ns : List Str, NsOk ns → ns.length = 16 → Q (.lst (ns.map D.str))
abbrev sp__law_names (G : Gx) : Sp := spD G 2 F__law_names
def F__law_pattern : FD := fun ds Q => ∃ (cons lasts : List Str) (most : Nat), ds = [.dk, pD cons, pD lasts, .int most] ∧ most ≤ 10 ∧ lasts ≠ [] ∧ cons.length ≤ 900 ∧ lasts.length ≤ 900 ∧ (∀ x ∈ cons, sOk x) ∧
  ∀ (ks : List Str) (l : Str), (∀ x ∈ ks, x ∈ cons) → ks.length ≤ most → l ∈ lasts → Q (pD (ks ++ [l]))
abbrev sp__law_pattern (G : Gx) : Sp := spD G 4 F__law_pattern
/-- bases and constructors as the law makes them -/
structure BsOk (bases cons : List Str) : Prop where
  bc : BcOk bases cons
  bl : bases.length ≤ 3
  cl : cons.length ≤ 3
def F__law_entry : FD := fun ds Q => ∃ names bases cons : List Str, ds = [.dk, .lst (names.map D.str), pD bases, pD cons] ∧ BsOk bases cons ∧ names ≠ [] ∧ names.length ≤ 100 ∧ (∀ x ∈ names, isNm x = true ∧ x ∉ words ∧ sOk x) ∧
  ∀ e : En, EnOf bases cons e → Q (enD e)
abbrev sp__law_entry (G : Gx) : Sp := spD G 4 F__law_entry
end Sw
end

section
set_option Elab.async false
set_option autoImplicit false
set_option linter.all false
set_option maxRecDepth 100000
set_option maxHeartbeats 4000000
namespace Sw
open PySem PySem.Spec PyProof.Rows L2
def N__law_pick : List Str := ["deck", "some"]
theorem nd__law_pick : N__law_pick.Nodup := by decide +kernel
def t__law_pick (G : Gx) : TS :=
    (tRet (tOp (rIx G.K) (tVar 1) (tCall (sp__law_draw G) [] E0 (tCons (tVar 0) (tCons (tCB (rLenU G.K) (tCons (tVar 1) tNil)) tNil)))))

def N__law_names : List Str := ["deck", "many", "letters", "first", "step", "found", "way", "at", "name"]
theorem nd__law_names : N__law_names.Nodup := by decide +kernel
def t__law_names (G : Gx) : TS :=
    (tSeq (tAsg (tTup (tCons (tC (.str "abcdefghijklmnopqrstuvwxyz")) (tCons (tCall (sp__law_draw G) [] E0 (tCons (tVar 0) (tCons (tC (.int 26)) tNil))) tNil))) (gTup G.K 2 (gCons (gName 2) (gCons (gName 3) gNil))))
    (tSeq (tAsg (tCall (sp__law_pick G) [] E0 (tCons (tVar 0) (tCons (tLst (tCons (tC (.int 1)) (tCons (tC (.int 3)) (tCons (tC (.int 5)) (tCons (tC (.int 7)) (tCons (tC (.int 9)) (tCons (tC (.int 11)) (tCons (tC (.int 15)) (tCons (tC (.int 17)) tNil))))))))) tNil))) (gName 4))
    (tSeq (tAsg (tLc (iRng1 (tCons (tVar 1) tNil)) (gName 7) tYes (tOp (rIx G.K) (tVar 2) (tOp rModU (tCB (rIntU) (tCons (tOp (rAddU G.K) (tVar 3) (tOp rMulU (tVar 4) (tVar 7))) tNil)) (tC (.int 26)))) [7]) (gName 5))
    (tSeq (tAsg (tCall (sp__law_draw G) [] E0 (tCons (tVar 0) (tCons (tC (.int 4)) tNil))) (gName 6))
    (tSeq (tIfS (tTest (tOp (rEqD G.K) (tVar 6) (tC (.int 1)))) (tRet (tLc (iSeq G.K (tVar 5)) (gName 8) tYes (tOp (rAddU G.K) (tC (.str "zzzzzzz")) (tVar 8)) [8])) tNext)
    (tSeq (tIfS (tTest (tOp (rEqD G.K) (tVar 6) (tC (.int 2)))) (tRet (tLc (iSeq G.K (tVar 5)) (gName 8) tYes (tOp (rAddU G.K) (tVar 8) (tCall (sp__law_pick G) [] E0 (tCons (tVar 0) (tCons (tLst (tCons (tC (.str "list")) (tCons (tC (.str "opt")) (tCons (tC (.str "num")) (tCons (tC (.str "")) tNil))))) tNil)))) [8])) tNext)
    (tRet (tVar 5))))))))

def N__law_pattern : List Str := ["deck", "constructors", "lasts", "most", "many", "at"]
theorem nd__law_pattern : N__law_pattern.Nodup := by decide +kernel
def t__law_pattern (G : Gx) : TS :=
    (tSeq (tAsg (tIf (tTest (tOp (rNeD G.K) (tVar 1) (tTup tNil))) (tCall (sp__law_draw G) [] E0 (tCons (tVar 0) (tCons (tOp (rAddU G.K) (tVar 3) (tC (.int 1))) tNil))) (tC (.int 0))) (gName 4))
    (tRet (tOp (rAddU G.K) (tCB (rTupU G.K) (tCons (tLc (iRng1 (tCons (tVar 4) tNil)) (gName 5) tYes (tCall (sp__law_pick G) [] E0 (tCons (tVar 0) (tCons (tVar 1) tNil))) [5]) tNil)) (tTup (tCons (tCall (sp__law_pick G) [] E0 (tCons (tVar 0) (tCons (tVar 2) tNil))) tNil)))))

def N__law_entry : List Str := ["deck", "names", "bases", "constructors", "sort", "name", "many", "parameters", "has", "at", "pattern"]
theorem nd__law_entry : N__law_entry.Nodup := by decide +kernel
def t__law_entry (G : Gx) : TS :=
    (tSeq (tAsg (tCall (sp__law_pick G) [] E0 (tCons (tVar 0) (tCons (tLst (tCons (tC (.str "function")) (tCons (tC (.str "function")) (tCons (tC (.str "method")) (tCons (tC (.str "method")) (tCons (tC (.str "operator")) tNil)))))) tNil))) (gName 4))
    (tSeq (tPar 5 6 (tCons (tCall (sp__law_pick G) [] E0 (tCons (tVar 0) (tCons (tVar 1) tNil))) (tCons (tCall (sp__law_pick G) [] E0 (tCons (tVar 0) (tCons (tLst (tCons (tC (.int 1)) (tCons (tC (.int 1)) (tCons (tC (.int 2)) (tCons (tC (.int 0)) (tCons (tC (.int 3)) tNil)))))) tNil))) tNil)))
    (tSeq (tIfS (tTest (tOp (rEqD G.K) (tVar 4) (tC (.str "operator")))) (tPar 5 6 (tCons (tCall (sp__law_pick G) [] E0 (tCons (tVar 0) (tCons (tLst (tCons (tC (.str "+")) (tCons (tC (.str "|")) tNil))) tNil))) (tCons (tC (.int 2)) tNil))) tNext)
    (tSeq (tAsg (tIf (tAnd (tTest (tOp (rEqD G.K) (tVar 4) (tC (.str "method")))) (tTest (tOp (rEqD G.K) (tVar 6) (tC (.int 0))))) (tC (.int 1)) (tVar 6)) (gName 6))
    (tSeq (tAsg (tCB (rTupU G.K) (tCons (tLc (iRng1 (tCons (tVar 6) tNil)) (gName 9) tYes (tCall (sp__law_pattern G) [] E0 (tCons (tVar 0) (tCons (tVar 3) (tCons (tOp (rAddU G.K) (tTup (tCons (tC (.str "T")) (tCons (tC (.str "T")) tNil))) (tVar 2)) (tCons (tC (.int 2)) tNil))))) [9]) tNil)) (gName 7))
    (tSeq (tAsg (tOp (rNeD G.K) (tLc (iSeq G.K (tVar 7)) (gName 10) (tTest (tOp (rEqD G.K) (tOp (rIx G.K) (tVar 10) (tUn (rU fun i => .int (-i)) (tC (.int 1)))) (tC (.str "T")))) (tC (.int 1)) [10]) (tLst tNil)) (gName 8))
    (tRet (tTup (tCons (tVar 4) (tCons (tVar 5) (tCons (tVar 7) (tCons (tCall (sp__law_pattern G) [] E0 (tCons (tVar 0) (tCons (tVar 3) (tCons (tIf (tB (tVar 8)) (tOp (rAddU G.K) (tTup (tCons (tC (.str "T")) (tCons (tC (.str "T")) tNil))) (tVar 2)) (tVar 2)) (tCons (tC (.int 2)) tNil))))) tNil))))))))))))
end Sw
end

section
set_option Elab.async false
set_option autoImplicit false
set_option linter.all false
set_option maxRecDepth 100000
set_option maxHeartbeats 4000000
namespace Sw
open PySem PySem.Spec PyProof.Rows L2
section
variable {S : Sc} {ρ : List Sl} {te : TE}
theorem wn_borrow (i : Nat) {a : Addr} {xs : List D} {Q : List D → Prop} (h : ρ[i]? = some (.own a (.lst xs))) (k : WN S te (ρ.set i (.d (.lst xs))) fun ds => flatDs ds = true ∧ Q ds) : WN S te ρ Q := fun σ H R Qv q =>
  k σ H (R.release h) Qv fun p H' vs ds n e hp r ⟨hf, hq⟩ => q p H' vs ds n e hp (r.flat hf) hq
theorem flatDs_map {α : Type} {f : α → D} : ∀ {xs : List α}, (∀ x ∈ xs, flatD (f x) = true) → flatDs (xs.map f) = true
  | [], _ => by simp [flatDs]
  | x :: xs, h => by
    rw [List.map_cons, flatDs, h x (by simp), flatDs_map fun y hy => h y (List.mem_cons_of_mem _ hy)]
    rfl
end
end Sw
end

section
set_option Elab.async false
set_option autoImplicit false
set_option linter.all false
namespace Sw
open PySem PySem.Spec PyProof.Rows L2
/-- rows of patterns that some kinds fit both -/
def meets (ps qs : List Pt) : Prop := ∃ t u : Pt, t ≠ [] ∧ u ≠ [] ∧ ps.map (fill t) = qs.map (fill u)
def F__law_do_meet : FD := fun ds Q => ∃ ps qs : List Pt, ds = [.tup (ps.map pD), .tup (qs.map pD)] ∧ ps.length = qs.length ∧ ps.length ≤ 4 ∧ (∀ p ∈ ps, PtOk p) ∧ (∀ p ∈ qs, PtOk p) ∧ ∀ c : Bool, (c = true ↔ meets ps qs) → Q (.bl c)
abbrev sp__law_do_meet (G : Gx) : Sp := spD G 2 F__law_do_meet
def F__law_do_clash : FD := F_do_clash
abbrev sp__law_do_clash (G : Gx) : Sp := spD G 2 F__law_do_clash
end Sw
end

section
set_option Elab.async false
set_option autoImplicit false
set_option linter.all false
set_option maxRecDepth 100000
set_option maxHeartbeats 4000000
namespace Sw
open PySem PySem.Spec PyProof.Rows L2
/-- what is asked of the kinds t and u: fixed ones, t as a row and u, u as a row and t -/
structure Mt where
  f0 : List Pt
  f1 : List Pt
  l0 : List Pt
  l1 : List Pt
structure Mt.holds (m : Mt) (t u : Pt) : Prop where
  f0 : ∀ f ∈ m.f0, t = f
  f1 : ∀ f ∈ m.f1, u = f
  l0 : ∀ r ∈ m.l0, t = r ++ u
  l1 : ∀ r ∈ m.l1, u = r ++ t
theorem Mt.holds_nil (t u : Pt) : Mt.holds ⟨[], [], [], []⟩ t u := ⟨by simp, by simp, by simp, by simp⟩
theorem all_add {xs : List Pt} {x : Pt} {p : Pt → Prop} : (∀ z ∈ xs ++ [x], p z) ↔ (∀ z ∈ xs, p z) ∧ p x := by
  constructor
  · exact fun h => ⟨fun z hz => h z (List.mem_append_left _ hz), h x (List.mem_append_right _ (.head _))⟩
  · rintro ⟨h1, h2⟩ z hz
    rcases List.mem_append.mp hz with hz | hz
    · exact h1 z hz
    · rw [List.mem_singleton.mp hz]
      exact h2
theorem Mt.add_f0 {m : Mt} {x t u : Pt} : Mt.holds { m with f0 := m.f0 ++ [x] } t u ↔ m.holds t u ∧ t = x :=
  ⟨fun h => ⟨⟨(all_add.mp h.f0).1, h.f1, h.l0, h.l1⟩, (all_add.mp h.f0).2⟩, fun ⟨h, e⟩ => ⟨all_add.mpr ⟨h.f0, e⟩, h.f1, h.l0, h.l1⟩⟩
theorem Mt.add_f1 {m : Mt} {x t u : Pt} : Mt.holds { m with f1 := m.f1 ++ [x] } t u ↔ m.holds t u ∧ u = x :=
  ⟨fun h => ⟨⟨h.f0, (all_add.mp h.f1).1, h.l0, h.l1⟩, (all_add.mp h.f1).2⟩, fun ⟨h, e⟩ => ⟨h.f0, all_add.mpr ⟨h.f1, e⟩, h.l0, h.l1⟩⟩
theorem Mt.add_l0 {m : Mt} {x t u : Pt} : Mt.holds { m with l0 := m.l0 ++ [x] } t u ↔ m.holds t u ∧ t = x ++ u :=
  ⟨fun h => ⟨⟨h.f0, h.f1, (all_add.mp h.l0).1, h.l1⟩, (all_add.mp h.l0).2⟩, fun ⟨h, e⟩ => ⟨h.f0, h.f1, all_add.mpr ⟨h.l0, e⟩, h.l1⟩⟩
theorem Mt.add_l1 {m : Mt} {x t u : Pt} : Mt.holds { m with l1 := m.l1 ++ [x] } t u ↔ m.holds t u ∧ u = x ++ t :=
  ⟨fun h => ⟨⟨h.f0, h.f1, h.l0, (all_add.mp h.l1).1⟩, (all_add.mp h.l1).2⟩, fun ⟨h, e⟩ => ⟨h.f0, h.f1, h.l0, all_add.mpr ⟨h.l1, e⟩⟩⟩
theorem fill_T {t p : Pt} (h : hT p = true) : fill t p = p.dropLast ++ t := if_pos h
theorem fill_no {t p : Pt} (h : hT p = false) : fill t p = p := if_neg (by rw [h]; decide)
/-- both patterns end in T -/
theorem both_T {a b t u : Pt} (h : a.take (min a.length b.length) = b.take (min a.length b.length)) : a ++ t = b ++ u ↔ if a.length ≤ b.length then t = b.drop (min a.length b.length) ++ u else u = a.drop (min a.length b.length) ++ t := by
  by_cases hl : a.length ≤ b.length
  · rw [if_pos hl, Nat.min_eq_left hl]
    rw [Nat.min_eq_left hl, List.take_length] at h
    have e : b = a ++ b.drop a.length := by
      conv => lhs; rw [← List.take_append_drop a.length b]
      rw [← h]
    generalize b.drop a.length = c at e
    subst e
    rw [List.append_assoc]
    constructor
    · exact fun z => List.append_cancel_left z
    · exact fun z => by rw [z]
  · have hl2 : b.length ≤ a.length := by omega
    rw [if_neg hl, Nat.min_eq_right hl2]
    rw [Nat.min_eq_right hl2, List.take_length] at h
    have e : a = b ++ a.drop b.length := by
      conv => lhs; rw [← List.take_append_drop b.length a]
      rw [h]
    generalize a.drop b.length = c at e
    subst e
    rw [List.append_assoc]
    constructor
    · exact fun z => (List.append_cancel_left z).symm
    · exact fun z => by rw [z]
theorem both_no {a b t u : Pt} (h : a.take (min a.length b.length) ≠ b.take (min a.length b.length)) : a ++ t ≠ b ++ u := fun e => h (by
  have e2 := congrArg (List.take (min a.length b.length)) e
  rwa [List.take_append_of_le_length (Nat.min_le_left _ _), List.take_append_of_le_length (Nat.min_le_right _ _)] at e2)
/-- one pattern ends in T -/
theorem one_T {a q t : Pt} (h1 : ¬ q.length ≤ a.length) (h2 : q.take a.length = a) : a ++ t = q ↔ t = q.drop a.length := by
  have e : q = a ++ q.drop a.length := by
    conv => lhs; rw [← List.take_append_drop a.length q]
    rw [h2]
  constructor
  · intro z
    rw [← z]
    simp
  · intro z
    rw [z, ← e]
theorem one_no {a q t : Pt} (ht : t ≠ []) (h : q.length ≤ a.length ∨ q.take a.length ≠ a) : a ++ t ≠ q := fun e => by
  subst e
  rcases h with h | h
  · rw [List.length_append] at h
    exact ht (List.length_eq_zero_iff.mp (by omega))
  · exact h (by simp)
def same (xs : List Pt) : Prop := ∀ x ∈ xs, ∀ y ∈ xs, x = y
/-- the side's row beside the fixed kinds: r the row, f this side's, g the other's -/
def sideOk (r f g : List Pt) : Prop := ∀ row, r.head? = some row → (∀ x y, g.head? = some y → f.head? = some x → x = row ++ y) ∧ ∀ x, f.head? = some x → x.take row.length = row ∧ ¬ x.length ≤ row.length
structure Mt.fin (m : Mt) : Prop where
  s0 : same m.f0
  s1 : same m.f1
  s2 : same m.l0
  s3 : same m.l1
  cross : ∀ r0 r1, m.l0.head? = some r0 → m.l1.head? = some r1 → r0 = [] ∧ r1 = []
  a : sideOk m.l0 m.f0 m.f1
  b : sideOk m.l1 m.f1 m.f0
theorem head_mem {α : Type} {xs : List α} {x : α} (h : xs.head? = some x) : x ∈ xs := by
  cases xs with
  | nil => cases h
  | cons y ys => cases h; exact .head _
theorem side_of {r f g : List Pt} {t u : Pt} (hu : u ≠ []) (hr : ∀ x ∈ r, t = x ++ u) (hf : ∀ x ∈ f, t = x) (hg : ∀ x ∈ g, u = x) : sideOk r f g := fun row hrow => by
  have e := hr row (head_mem hrow)
  refine ⟨fun x y hy hx => ?_, fun x hx => ?_⟩
  · rw [← hf x (head_mem hx), ← hg y (head_mem hy)]
    exact e
  · rw [← hf x (head_mem hx), e]
    refine ⟨by simp, ?_⟩
    rw [List.length_append]
    have : u.length ≠ 0 := fun z => hu (List.length_eq_zero_iff.mp z)
    omega
theorem Mt.fin_of {m : Mt} {t u : Pt} (ht : t ≠ []) (hu : u ≠ []) (h : m.holds t u) : m.fin := by
  refine ⟨fun x hx y hy => (h.f0 x hx).symm.trans (h.f0 y hy), fun x hx y hy => (h.f1 x hx).symm.trans (h.f1 y hy), fun x hx y hy => ?_, fun x hx y hy => ?_, fun r0 r1 h0 h1 => ?_, side_of hu h.l0 h.f0 h.f1, side_of ht h.l1 h.f1 h.f0⟩
  · exact List.append_cancel_right ((h.l0 x hx).symm.trans (h.l0 y hy))
  · exact List.append_cancel_right ((h.l1 x hx).symm.trans (h.l1 y hy))
  · have e1 := congrArg List.length (h.l0 r0 (head_mem h0))
    have e2 := congrArg List.length (h.l1 r1 (head_mem h1))
    rw [List.length_append] at e1 e2
    exact ⟨List.length_eq_zero_iff.mp (by omega), List.length_eq_zero_iff.mp (by omega)⟩
theorem same_head {xs : List Pt} (s : same xs) {x : Pt} (h : xs.head? = some x) : ∀ y ∈ xs, x = y := fun y hy => s x (head_mem h) y hy
theorem none_head {α : Type} {xs : List α} (h : xs.head? = none) : xs = [] := List.head?_eq_none_iff.mp h
theorem Mt.of_fin {m : Mt} (n0 : ∀ f ∈ m.f0, f ≠ []) (n1 : ∀ f ∈ m.f1, f ≠ []) (h : m.fin) : ∃ t u : Pt, t ≠ [] ∧ u ≠ [] ∧ m.holds t u := by
  -- a kind of each side by the fixed ones, where the other side's row leads
  have lead : ∀ {r f g : List Pt} {row : Pt}, sideOk r f g → same f → same g → (∀ x ∈ g, x ≠ []) → r.head? = some row → ∃ u : Pt, u ≠ [] ∧ (∀ x ∈ f, row ++ u = x) ∧ ∀ x ∈ g, u = x := fun {r f g row} ok sf sg ng hr => by
    obtain ⟨k1, k2⟩ := ok row hr
    cases hg : g.head? with
    | some y =>
      refine ⟨y, ng y (head_mem hg), fun x hx => ?_, same_head sg hg⟩
      cases hf : f.head? with
      | none =>
        rw [none_head hf] at hx
        cases hx
      | some z => rw [← same_head sf hf x hx, ← k1 z y hg hf]
    | none =>
      rw [none_head hg]
      cases hf : f.head? with
      | none =>
        rw [none_head hf]
        exact ⟨["T"], by simp, by simp, by simp⟩
      | some z =>
        obtain ⟨e1, e2⟩ := k2 z hf
        refine ⟨z.drop row.length, fun e => ?_, fun x hx => ?_, by simp⟩
        · have := congrArg List.length e
          rw [List.length_drop] at this
          exact e2 (by simp at this; omega)
        · rw [← same_head sf hf x hx]
          conv => rhs; rw [← List.take_append_drop row.length z]
          rw [e1]
  cases h0 : m.l0.head? with
  | some r0 =>
    obtain ⟨u, hu, k1, k2⟩ := lead h.a h.s0 h.s1 n1 h0
    refine ⟨r0 ++ u, u, by simp [hu], hu, k1, k2, fun r hr => by rw [same_head h.s2 h0 r hr], fun r hr => ?_⟩
    cases h1 : m.l1.head? with
    | none =>
      rw [none_head h1] at hr
      cases hr
    | some r1 =>
      obtain ⟨e1, e2⟩ := h.cross r0 r1 h0 h1
      rw [← same_head h.s3 h1 r hr, e1, e2]
      rfl
  | none =>
    have e0 := none_head h0
    cases h1 : m.l1.head? with
    | some r1 =>
      obtain ⟨t, ht, k1, k2⟩ := lead h.b h.s1 h.s0 n0 h1
      exact ⟨t, r1 ++ t, ht, by simp [ht], k2, k1, (by rw [e0]; simp), fun r hr => by rw [same_head h.s3 h1 r hr]⟩
    | none =>
      have e1 := none_head h1
      have pick : ∀ {f : List Pt}, same f → (∀ x ∈ f, x ≠ []) → ∃ t : Pt, t ≠ [] ∧ ∀ x ∈ f, t = x := fun {f} s n => by
        cases hf : f.head? with
        | none => exact ⟨["T"], by simp, by rw [none_head hf]; simp⟩
        | some x => exact ⟨x, n x (head_mem hf), same_head s hf⟩
      obtain ⟨t, ht, kt⟩ := pick h.s0 n0
      obtain ⟨u, hu, ku⟩ := pick h.s1 n1
      exact ⟨t, u, ht, hu, kt, ku, (by rw [e0]; simp), by rw [e1]; simp⟩
end Sw
end

section
set_option Elab.async false
set_option autoImplicit false
set_option linter.all false
set_option maxRecDepth 100000
set_option maxHeartbeats 4000000
namespace Sw
open PySem PySem.Spec PyProof.Rows L2
def N__law_do_clash : List Str := ["one", "other"]
theorem nd__law_do_clash : N__law_do_clash.Nodup := by decide +kernel
def t__law_do_clash (G : Gx) : TS :=
    (tRet (tAndV (tOp (rEqD G.K) (tSl (rSlU G.K) (tVar 0) tNoPart (tPart (tC (.int 2)))) (tSl (rSlU G.K) (tVar 1) tNoPart (tPart (tC (.int 2))))) (tAndV (tOp (rEqD G.K) (tCB (rLenU G.K) (tCons (tOp (rIx G.K) (tVar 0) (tC (.int 2))) tNil)) (tCB (rLenU G.K) (tCons (tOp (rIx G.K) (tVar 1) (tC (.int 2))) tNil))) (tCall (sp__law_do_meet G) [] E0 (tCons (tOp (rIx G.K) (tVar 0) (tC (.int 2))) (tCons (tOp (rIx G.K) (tVar 1) (tC (.int 2))) tNil))))))
end Sw
end

section
set_option Elab.async false
set_option autoImplicit false
set_option linter.all false
namespace Sw
open PySem PySem.Spec PyProof.Rows L2
variable {S : Sc} {ρ : List Sl}
theorem wg_lst {n : Nat} {gs : TGs} {js : List Nat} {ds : List D} {Q : List Sl → Prop} (hn : ds.length = n) (h : WGs S gs js ds ρ Q) : WG S (gLst S.G.K n gs) js (.lst ds) ρ Q := fun σ H v R q Qs k => by
  obtain ⟨a, xs, rfl, h1, _, r⟩ := dq_lst q
  exact ⟨a, xs, rfl, SqL.of h1, by rw [r.length]; exact hn, h σ H xs R r Qs k⟩
end Sw
end

section
set_option Elab.async false
set_option autoImplicit false
set_option linter.all false
namespace Sw
open PySem PySem.Spec PyProof.Rows L2
/-- ints that are short to write -/
def smI (i : Int) : Prop := 0 ≤ i ∧ i ≤ 100000
def DdSm : Dd → Prop
  | .undo h n => smI h ∧ smI n
  | _ => True
structure RcSm (r : Rc) : Prop where
  h : smI r.h
  n : smI r.n
  day : smI r.day
  deed : DdSm r.deed
def F__law_drawn_deed : FD := fun ds Q => ∃ (pool : List En) (hands : Int) (found : List Rc) (bases cons : List Str), ds = [.dk, .lst (pool.map enD), .int hands, .lst (found.map rcD)] ∧ pool ≠ [] ∧ pool.length ≤ 1000 ∧ found.length ≤ 1000 ∧ 0 < hands ∧ hands ≤ 100 ∧
  (∀ e ∈ pool, EnOf bases cons e) ∧ (∀ r ∈ found, RcOk bases cons r ∧ RcSm r) ∧ ∀ d : Dd, DdOk bases cons d → DdSm d → Q (ddD d)
abbrev sp__law_drawn_deed (G : Gx) : Sp := spD G 4 F__law_drawn_deed
end Sw
end

section
set_option Elab.async false
set_option autoImplicit false
set_option linter.all false
set_option maxRecDepth 100000
set_option maxHeartbeats 4000000
namespace Sw
open PySem PySem.Spec PyProof.Rows L2
def N__law_drawn_deed : List Str := ["deck", "pool", "hands", "found", "way"]
theorem nd__law_drawn_deed : N__law_drawn_deed.Nodup := by decide +kernel
def t__law_drawn_deed (G : Gx) : TS :=
    (tSeq (tAsg (tCall (sp__law_draw G) [] E0 (tCons (tVar 0) (tCons (tC (.int 8)) tNil))) (gName 4))
    (tSeq (tIfS (tAnd (tTest (tOp (rLtU G.K) (tVar 4) (tC (.int 3)))) (tTest (tOp (rNeD G.K) (tVar 3) (tLst tNil)))) (tRet (tOp (rAddU G.K) (tTup (tCons (tC (.str "undo")) tNil)) (tSl (rSlU G.K) (tCall (sp__law_pick G) [] E0 (tCons (tVar 0) (tCons (tVar 3) tNil))) tNoPart (tPart (tC (.int 2)))))) tNext)
    (tSeq (tIfS (tTest (tOp (rEqD G.K) (tVar 4) (tC (.int 3)))) (tRet (tTup (tCons (tC (.str "undo")) (tCons (tCall (sp__law_draw G) [] E0 (tCons (tVar 0) (tCons (tOp (rAddU G.K) (tVar 2) (tC (.int 1))) tNil))) (tCons (tCall (sp__law_draw G) [] E0 (tCons (tVar 0) (tCons (tC (.int 6)) tNil))) tNil))))) tNext)
    (tRet (tTup (tCons (tCall (sp__law_pick G) [] E0 (tCons (tVar 0) (tCons (tLst (tCons (tC (.str "add")) (tCons (tC (.str "add")) (tCons (tC (.str "drop")) tNil)))) tNil))) (tCons (tCall (sp__law_pick G) [] E0 (tCons (tVar 0) (tCons (tVar 1) tNil))) tNil)))))))
end Sw
end

section
set_option Elab.async false
set_option autoImplicit false
set_option linter.all false
namespace Sw
open PySem PySem.Spec PyProof.Rows L2
/-- the parts drawn: a dict -/
def partsD (L : Lby) (names : List Str) : D := .dct [(.inr "bases", pD L.bases), (.inr "constructors", pD L.cons), (.inr "entries", esD L.es), (.inr "roles", .lst [oD L.nu, oD L.qu, oD L.tr]), (.inr "names", .lst (names.map D.str))]
def F__law_library (C : Addr) : FD := fun ds Q => ∃ (L : Lby) (names : List Str) (es : List En), ds = [partsD L names, esD es] ∧ LbOk { L with es := es } ∧ Q (lbD C (sortd { L with es := es }))
abbrev sp__law_library (G : Gx) : Sp := spD G 2 (F__law_library (lbC G))
end Sw
end

section
set_option Elab.async false
set_option autoImplicit false
set_option linter.all false
set_option maxRecDepth 100000
set_option maxHeartbeats 4000000
namespace Sw
open PySem PySem.Spec PyProof.Rows L2
def N__law_library : List Str := ["parts", "entries", "a", "b", "c"]
theorem nd__law_library : N__law_library.Nodup := by decide +kernel
def t__law_library (G : Gx) : TS :=
    (tSeq (tAsg (tDGet (tVar 0) (tC (.str "roles"))) (gLst G.K 3 (gCons (gName 2) (gCons (gName 3) (gCons (gName 4) gNil)))))
    (tRet (tCMethK (lbC G) 3 3 (sp_of G) (tC (.ref (lbC G))) (tCons (tDGet (tVar 0) (tC (.str "bases"))) (tCons (tDGet (tVar 0) (tC (.str "constructors"))) (tCons (tVar 1) tNil))) (tCons (tVar 2) (tCons (tVar 3) (tCons (tVar 4) tNil))))))
end Sw
end

section
set_option Elab.async false
set_option autoImplicit false
set_option linter.all false
namespace Sw
open PySem PySem.Spec PyProof.Rows L2
def F__law_live : FD := fun ds Q => ∃ (rs : List Rc) (day : Int), ds = [.tup (rs.map rcD), .int day] ∧ rs.length ≤ 100 ∧ Q (.tup ((liveR rs day).map rcD))
abbrev sp__law_live (G : Gx) : Sp := spD G 2 F__law_live
def F__law_entries_on : FD := fun ds Q => ∃ (es : List En) (rs : List Rc) (day : Int) (bases cons : List Str), ds = [esD es, .tup (rs.map rcD), .int day] ∧ es.length + rs.length ≤ 100 ∧ (∀ e ∈ es, EnOk e) ∧ (∀ r ∈ rs, RcOk bases cons r) ∧ Q (esD (srtE (dayE es rs day)))
abbrev sp__law_entries_on (G : Gx) : Sp := spD G 3 F__law_entries_on
/-- an entry clashes with itself -/
theorem clash_refl (e : En) : clash e e := ⟨rfl, rfl, rfl, ["T"], ["T"], by simp, by simp, rfl⟩
end Sw
end

section
set_option Elab.async false
set_option autoImplicit false
set_option linter.all false
set_option maxRecDepth 100000
set_option maxHeartbeats 4000000
namespace Sw
open PySem PySem.Spec PyProof.Rows L2
def N__law_entries_on : List Str := ["entries", "records", "day", "found", "record", "word", "what", "entry"]
theorem nd__law_entries_on : N__law_entries_on.Nodup := by decide +kernel
def t__law_entries_on (G : Gx) : TS :=
    (tSeq (tAsg (tCB (rLstU G.K) (tCons (tVar 0) tNil)) (gName 3))
    (tSeq (tFor (iSeq G.K (tCall (sp__law_live G) [] E0 (tCons (tVar 1) (tCons (tVar 2) tNil)))) (gName 4) (tSeq (tAsg (tSl (rSlU G.K) (tOp (rIx G.K) (tVar 4) (tC (.int 3))) tNoPart (tPart (tC (.int 2)))) (gTup G.K 2 (gCons (gName 5) (gCons (gName 6) gNil))))
    (tIfS (tTest (tOp (rEqD G.K) (tVar 5) (tC (.str "drop")))) (tAsg (tLc (iSeq G.K (tVar 3)) (gName 7) (tTest (tOp (rNeD G.K) (tVar 7) (tVar 6))) (tVar 7) [7]) (gName 3)) (tIfS (tAnd (tTest (tOp (rEqD G.K) (tVar 5) (tC (.str "add")))) (tTest (tOp (rEqD G.K) (tLc (iSeq G.K (tVar 3)) (gName 7) (tOr (tTest (tOp (rEqD G.K) (tVar 7) (tVar 6))) (tB (tCall (sp__law_do_clash G) [] E0 (tCons (tVar 7) (tCons (tVar 6) tNil))))) (tC (.int 1)) [7]) (tLst tNil)))) (tDrop (tBM G.K "list" rAppend (tVar 3) (tCons (tVar 6) tNil))) tNext))))
    (tRet (tCB (rTupU G.K) (tCons (tCB (rSortedD G.K) (tCons (tVar 3) tNil)) tNil)))))
end Sw
end

section
set_option Elab.async false
set_option autoImplicit false
set_option linter.all false
set_option maxRecDepth 100000
set_option maxHeartbeats 4000000
namespace Sw
open PySem PySem.Spec PyProof.Rows L2

def N__law_live : List Str := ["records", "day", "found", "gone", "record", "it"]
theorem nd__law_live : N__law_live.Nodup := by decide +kernel
def t__law_live (G : Gx) : TS :=
    (tSeq (tPar 2 3 (tCons (tLst tNil) (tCons (tLst tNil) tNil)))
    (tSeq (tFor (iSeq G.K (tRevL G.K (tSortKL G (tTup (tCons (tOp (rIx G.K) (tVar 0) (tC (.int 2))) (tCons (tOp (rIx G.K) (tVar 0) (tC (.int 0))) (tCons (tOp (rIx G.K) (tVar 0) (tC (.int 1))) tNil)))) ["it"] (tLc (iSeq G.K (tVar 0)) (gName 5) (tTest (tOp rLeU (tOp (rIx G.K) (tVar 5) (tC (.int 2))) (tVar 1))) (tVar 5) [5])))) (gName 4) (tIfS (tTest (tOp (rNotInU G.K) (tSl (rSlU G.K) (tVar 4) tNoPart (tPart (tC (.int 2)))) (tVar 3))) (tSeq (tDrop (tBM G.K "list" rAppend (tVar 2) (tCons (tVar 4) tNil)))
    (tDrop (tBM G.K "list" rExtend (tVar 3) (tCons (tIf (tTest (tOp (rEqD G.K) (tOp (rIx G.K) (tOp (rIx G.K) (tVar 4) (tC (.int 3))) (tC (.int 0))) (tC (.str "undo")))) (tLst (tCons (tSl (rSlU G.K) (tOp (rIx G.K) (tVar 4) (tC (.int 3))) (tPart (tC (.int 1))) tNoPart) tNil)) (tLst tNil)) tNil)))) tNext))
    (tRet (tCB (rTupU G.K) (tCons (tRevL G.K (tVar 2)) tNil)))))
end Sw
end

section
set_option Elab.async false
set_option autoImplicit false
set_option linter.all false
namespace Sw
open PySem PySem.Spec PyProof.Rows L2
def F__law_drawn_records : FD := fun ds Q => ∃ (pool : List En) (hands many : Nat) (days : List Int) (bases cons : List Str), ds = [.dk, .lst (pool.map enD), .int hands, .int many, .lst (days.map D.int)] ∧ pool ≠ [] ∧ pool.length ≤ 1000 ∧ 0 < hands ∧ hands ≤ 100 ∧ many ≤ 50 ∧ days ≠ [] ∧ days.length ≤ 1000 ∧
  (∀ d ∈ days, smI d) ∧ (∀ e ∈ pool, EnOf bases cons e) ∧ ∀ rs : List Rc, RcsOk bases cons rs → (∀ r ∈ rs, RcSm r) → rs.length = many → Q (.tup (rs.map rcD))
abbrev sp__law_drawn_records (G : Gx) : Sp := spD G 5 F__law_drawn_records
def F__law_like : FD := fun ds Q => ∃ (e : En) (L : Lby) (names : List Str), ds = [.dk, enD e, partsD L names] ∧ BsOk L.bases L.cons ∧ EnOf L.bases L.cons e ∧ ∀ e' : En, EnOf L.bases L.cons e' → Q (enD e')
abbrev sp__law_like (G : Gx) : Sp := spD G 3 F__law_like
def F__law_parts : FD := fun ds Q => ∃ many : Nat, ds = [.dk, .int many] ∧ many ≤ 10 ∧ ∀ (L : Lby) (names : List Str), LbOk L → BsOk L.bases L.cons → srtE L.es = L.es → L.es.length ≤ many → NsOk names → names.length = 16 → Q (partsD L names)
abbrev sp__law_parts (G : Gx) : Sp := spD G 2 F__law_parts
end Sw
end

section
set_option Elab.async false
set_option autoImplicit false
set_option linter.all false
set_option maxRecDepth 100000
set_option maxHeartbeats 4000000
namespace Sw
open PySem PySem.Spec PyProof.Rows L2
def F_leq (C : Addr) : FD := fun ds Q => ∃ L : Lby, ds = [lbD C L, lbD C L] ∧ LbOk L ∧ Q (.bl true)
abbrev sp_leq (G : Gx) : Sp := spD G 2 (F_leq (lbC G))
def F__law_is_told (C : Addr) : FD := fun ds Q => ∃ (L : Lby) (names : List Str) (rs some : List Rc) (day : Int) (byn : Bool), ds = [lbD C L, partsD L names, .tup (rs.map rcD), .tup (some.map rcD), .int day, .bl byn] ∧ LbOk L ∧ srtE L.es = L.es ∧ L.es.length + rs.length ≤ 100 ∧ RcsOk L.bases L.cons rs ∧ (∀ r ∈ rs, RcSm r) ∧
  (some.Perm rs ∨ some = rs.filter fun r => decide (r.day ≤ day)) ∧ 0 ≤ day ∧ Q (.bl true)
abbrev sp__law_is_told (G : Gx) : Sp := spD G 6 (F__law_is_told (lbC G))
end Sw
end

section
set_option Elab.async false
set_option autoImplicit false
set_option linter.all false
set_option maxRecDepth 100000
set_option maxHeartbeats 4000000
namespace Sw
open PySem PySem.Spec PyProof.Rows L2

def N_Library___eq__ : List Str := ["self", "other"]
theorem nd_Library___eq__ : N_Library___eq__.Nodup := by decide +kernel
def t_Library___eq__ (G : Gx) : TS :=
    (tSeq (tIfS (tNot (tB (tCB (rIsi G.K) (tCons (tVar 1) (tCons (tC (.ref (lbC G))) tNil))))) (tRet (tC (.bl false))) tNext)
    (tSeq (tIfS (tOr (tTest (tOp (rNeD G.K) (tFld G.K (tVar 0) "bases") (tFld G.K (tVar 1) "bases"))) (tTest (tOp (rNeD G.K) (tFld G.K (tVar 0) "constructors") (tFld G.K (tVar 1) "constructors")))) (tRet (tC (.bl false))) tNext)
    (tRet (tAndV (tOp (rEqD G.K) (tCall (sp_roles_of G) [] E0 (tCons (tVar 0) tNil)) (tCall (sp_roles_of G) [] E0 (tCons (tVar 1) tNil))) (tOp (rEqD G.K) (tFld G.K (tVar 0) "sorted_entries") (tFld G.K (tVar 1) "sorted_entries"))))))
end Sw
end

section
set_option Elab.async false
set_option autoImplicit false
set_option linter.all false
namespace Sw
open PySem PySem.Spec PyProof.Rows L2
/-- i, j = [], []: both owned -/
theorem ws_parLL {S : Sc} {ρ : List Sl} {E : DE} {i j : Nat} (h : ∀ p r, E.nx ((ρ.set i (.own p (.lst []))).set j (.own r (.lst [])))) : WS S (tPar i j (tCons (tLst tNil) (tCons (tLst tNil) tNil))) ρ E := fun σ H Dv R l => by
  refine ⟨Nat.zero_le _, fun p hp => ⟨Nat.zero_le _, fun r hr => ?_⟩⟩
  obtain ⟨R1, k1⟩ := R.setO (Ex.new hp) (c := .lst []) hp (by rw [upd_same]; exact fun z => nomatch z) rfl ⟨[], upd_same, .nil⟩ i
  obtain ⟨R2, k2⟩ := R1.setO (Ex.new hr) (c := .lst []) hr (by rw [upd_same]; exact fun z => nomatch z) rfl ⟨[], upd_same, .nil⟩ j
  exact ⟨_, _, rfl, l.nx _ _ _ R2 (k1.trans k2) (h p r)⟩
end Sw
end

section
set_option Elab.async false
set_option autoImplicit false
set_option linter.all false
set_option maxRecDepth 100000
set_option maxHeartbeats 4000000
namespace Sw
open PySem PySem.Spec PyProof.Rows L2
section
variable {G : Gx} {B : Addr → Prop} {H0 H H' : Hp} {σ : L2.St} {ρ : List Sl}
/-- a new thing comes to stand at a slot -/
theorem Rho.setG (R : Rho G B H0 H σ ρ) (e : Ex G H H') {p : Addr} {c : OC} (nw : ∀ b ∈ (Sl.own p c).ads, H b = none) (tr : ∀ b ∈ (Sl.own p c).ads, H' b ≠ none) (nd : (Sl.own p c).ads.Nodup) (ok : OCok G (fun a => hid B ρ a ∨ a ∈ (Sl.own p c).ads) H' p c) (i : Nat) :
    Rho G B H0 H' (σ.set i (some (.ref p))) (ρ.set i (.own p c)) ∧ Keep G B H ρ H' (ρ.set i (.own p c)) := by
  have sub : ∀ a, hid B (ρ.set i (.own p c)) a → hid B ρ a ∨ a ∈ (Sl.own p c).ads := fun a q => by
    rcases q with q | q
    · exact .inl (.inl q)
    · rcases owns_set_sub q with q | q
      · exact .inl (.inr q)
      · exact .inr q
  have lt : ∀ a, H a ≠ none → hid B (ρ.set i (.own p c)) a → hid B ρ a := fun a ha hb => by
    rcases sub a hb with z | z
    · exact z
    · exact absurd (nw a z) ha
  have R2 := R.mono e
  refine ⟨⟨R2.tb, R2.ex, R2.bs, (fun a q => by
    rcases owns_set_sub q with q | q
    · exact R.nb a q
    · exact fun z => R.bs a z (nw a q)), by simpa using R2.len, fun j s es => ?_, fun a q => ?_, fun a q => ?_, owns_set_nodup R2.dis nd fun a ha hb => R.tr a hb (nw a ha)⟩, fun v d h => (h.lessT lt).mono e⟩
  · by_cases hj : i = j
    · subst hj
      have hlt : i < ρ.length := by simpa using (List.getElem?_eq_some_iff.mp es).1
      rw [List.getElem?_set_self hlt] at es
      cases es
      exact ⟨_, List.getElem?_set_self (by rw [R.len]; exact hlt), rfl, ok.less fun a z => sub a z⟩
    · rw [List.getElem?_set_ne hj] at es
      obtain ⟨o, h1, h2⟩ := R.at_ j s es
      exact ⟨o, by rw [List.getElem?_set_ne hj]; exact h1, (h2.lessT lt).mono e⟩
  · rcases owns_set_sub q with q | q
    · exact R2.own a q
    · exact nf R.ex (nw a q)
  · rcases owns_set_sub q with q | q
    · exact R2.tr a q
    · exact tr a q
/-- an owned thing is given up -/
theorem Rho.giveUp (R : Rho G B H0 H σ ρ) {i : Nat} {a : Addr} {c : OC} {d : D} (h : ρ[i]? = some (.own a c)) (k : ∀ B' : Addr → Prop, (∀ b, B' b → hid B ρ b ∧ b ∉ (Sl.own a c).ads) → OCok G (hid B ρ) H a c → Dq G B' H (.ref a) d) :
    Rho G B H0 H σ (ρ.set i (.d d)) ∧ ∀ b, hid B (ρ.set i (.d d)) b → hid B ρ b := by
  obtain ⟨h1, hc⟩ := R.varO h
  have hlt : i < ρ.length := (List.getElem?_eq_some_iff.mp h).1
  have no : ∀ b, b ∈ (Sl.d d).ads → False := fun b q => by simp [Sl.ads] at q
  have key : ∀ b, hid B (ρ.set i (.d d)) b → hid B ρ b ∧ b ∉ (Sl.own a c).ads := fun b q => by
    rcases q with q | q
    · exact ⟨.inl q, fun z => R.nb b (mem_owns h z) q⟩
    · have q1 : b ∈ owns ρ := (owns_set_sub q).elim id fun z => (no b z).elim
      refine ⟨.inr q1, fun z => ?_⟩
      obtain ⟨s, hs, hb⟩ := List.mem_flatMap.mp q
      obtain ⟨j, hj, ej⟩ := List.getElem_of_mem hs
      have e2 : (ρ.set i (.d d))[j]? = some s := by rw [List.getElem?_eq_getElem hj, ej]
      by_cases hij : i = j
      · subst hij
        rw [List.getElem?_set_self hlt] at e2
        cases e2
        exact no b hb
      · rw [List.getElem?_set_ne hij] at e2
        exact owns_two R.dis h e2 hij z hb
  refine ⟨⟨R.tb, R.ex, R.bs, (fun b q => R.nb b ((owns_set_sub q).elim id fun z => (no b z).elim)), by simpa using R.len, fun j s e => ?_, fun b q => R.own b ((owns_set_sub q).elim id fun z => (no b z).elim), fun b q => R.tr b ((owns_set_sub q).elim id fun z => (no b z).elim),
    owns_set_nodup R.dis (by simp [Sl.ads]) (by simp [Sl.ads])⟩, fun b q => (key b q).1⟩
  by_cases hj : i = j
  · subst hj
    rw [List.getElem?_set_self hlt] at e
    cases e
    exact ⟨_, h1, _, rfl, k _ key hc⟩
  · rw [List.getElem?_set_ne hj] at e
    obtain ⟨o, k1, k2⟩ := R.at_ j s e
    exact ⟨o, k1, k2.less fun b q => (key b q).1⟩
end
/-- the data of a dict of lists -/
def rowsD (rows : List (Key × Addr × List D)) : D := .dct (rows.map fun r => (r.1, .lst r.2.2))
theorem dq_rows {G : Gx} {B' Bh : Addr → Prop} {H : Hp} {a : Addr} {rows : List (Key × Addr × List D)} (k : ∀ b, B' b → Bh b ∧ b ∉ (Sl.own a (.dL rows)).ads) (h : OCok G Bh H a (.dL rows)) : Dq G B' H (.ref a) (rowsD rows) := by
  obtain ⟨h1, h2⟩ := h
  have sub : ∀ r ∈ rows, r.2.1 ∈ (Sl.own a (.dL rows)).ads := fun r hr => by
    simp only [Sl.ads, OC.more, List.mem_cons, List.mem_map]
    exact .inr ⟨r, hr, rfl⟩
  have key : ∀ rs : List (Key × Addr × List D), (∀ r ∈ rs, r ∈ rows) → DqL G B' H ((rs.map fun r => (r.1, V.ref r.2.1)).map (·.2)) ((rs.map fun r => (r.1, D.lst r.2.2)).map (·.2)) := fun rs => by
    induction rs with
    | nil => exact fun _ => .nil
    | cons r rs ih =>
      intro hs
      obtain ⟨vs, g1, g2⟩ := h2 r (hs r (.head _))
      exact .cons (.lst g1 (fun z => (k _ z).2 (sub r (hs r (.head _)))) (g2.less fun b z => (k b z).1)) (ih fun x hx => hs x (.tail _ hx))
  refine .dct h1 (fun z => (k _ z).2 (by simp [Sl.ads])) ?_ (key rows fun _ h => h)
  rw [List.map_map, List.map_map]
  rfl
section
variable {S : Sc} {ρ : List Sl} {tk te : TE} {t : TS} {E : DE}
theorem ws_giveUp (i : Nat) {a : Addr} {rows : List (Key × Addr × List D)} (h : ρ[i]? = some (.own a (.dL rows))) (k : WS S t (ρ.set i (.d (rowsD rows))) E) : WS S t ρ E := fun σ H Dv R l => by
  obtain ⟨R2, sub⟩ := R.giveUp h (d := rowsD rows) fun B' hb ok => dq_rows hb ok
  exact k σ H Dv R2 (l.step fun v d q => q.less sub)
/-- two lists by the numbers 0 and 1 -/
abbrev dL2 (b0 b1 : Addr) (xs ys : List D) : OC := .dL [(.inl 0, b0, xs), (.inl 1, b1, ys)]
abbrev dctL2 (xs ys : List D) : D := .dct [(.inl 0, .lst xs), (.inl 1, .lst ys)]
theorem disp2 {G : Gx} {σ : L2.St} {H : Hp} {Q : VK} (h : ∀ p a0 a1 H', Ex G H H' → H p = none → H a0 = none → H a1 = none → p ≠ a0 → p ≠ a1 → a0 ≠ a1 → H' p = some (.dK [(.inl 0, .ref a0), (.inl 1, .ref a1)]) → H' a0 = some (.lst []) → H' a1 = some (.lst []) → Q (.ref p) H') :
    tDisp [(tC (.int 0), tLst tNil), (tC (.int 1), tLst tNil)] σ H Q := by
  intro p hp
  refine ⟨Nat.zero_le _, fun a0 h0 => ⟨Nat.zero_le _, fun a1 h1 => ?_⟩⟩
  have n0 : p ≠ a0 := fun e => by
    rw [← e, upd_same] at h0
    cases h0
  have n1 : a0 ≠ a1 := fun e => by
    rw [← e, upd_same] at h1
    cases h1
  have n2 : p ≠ a1 := fun e => by
    rw [← e, upd_ne n0, upd_same] at h1
    cases h1
  have g0 : H a0 = none := by rwa [upd_ne (Ne.symm n0)] at h0
  have g1 : H a1 = none := by rwa [upd_ne (Ne.symm n1), upd_ne (Ne.symm n2)] at h1
  have hp3 : upd (upd (upd H p (.dK [])) a0 (.lst [])) a1 (.lst []) p = some (.dK []) := by rw [upd_ne n2, upd_ne n0, upd_same]
  refine ⟨hp3, [(.inl 0, .ref a0), (.inl 1, .ref a1)], rfl, Nat.le_of_ble_eq_true rfl, ?_⟩
  refine h p a0 a1 _ (((Ex.new hp).trans ((Ex.new h0).trans (Ex.new h1))).wr hp hp3 trivial) hp g0 g1 n0 n2 n1 ?_ ?_ ?_
  · rw [upd_same]
    rfl
  · rw [upd_ne (Ne.symm n0), upd_ne n1, upd_same]
  · rw [upd_ne (Ne.symm n2), upd_same]
theorem ok_new2 {G : Gx} {Bh : Addr → Prop} {H' : Hp} {x y z : Addr} (h1 : H' x = some (.dK [(.inl 0, .ref y), (.inl 1, .ref z)])) (h2 : H' y = some (.lst [])) (h3 : H' z = some (.lst [])) : OCok G Bh H' x (dL2 y z [] []) := ⟨h1, fun r hr => by
  have e : r = (.inl 0, y, []) ∨ r = (.inl 1, z, []) := by simpa using hr
  rcases e with e | e
  · subst e
    exact ⟨[], h2, .nil⟩
  · subst e
    exact ⟨[], h3, .nil⟩⟩
/-- i, j = {0: [], 1: []}, {0: [], 1: []} -/
theorem ws_twoD {i j : Nat} (hij : i ≠ j) (hj : j < ρ.length) (h : ∀ a a0 a1 b b0 b1, E.nx ((ρ.set i (.own a (dL2 a0 a1 [] []))).set j (.own b (dL2 b0 b1 [] [])))) :
    WS S (tAsg (tTup (tCons (tDisp [(tC (.int 0), tLst tNil), (tC (.int 1), tLst tNil)]) (tCons (tDisp [(tC (.int 0), tLst tNil), (tC (.int 1), tLst tNil)]) tNil))) (gTup S.G.K 2 (gCons (gName i) (gCons (gName j) gNil)))) ρ E := fun σ H Dv R l => by
  unfold tAsg tTup tCons
  refine disp2 (G := S.G) fun a a0 a1 H1 e1 na na0 na1 d1 d2 d3 ha ha0 ha1 => ?_
  refine disp2 (G := S.G) fun b b0 b1 H2 e2 nb nb0 nb1 d4 d5 d6 hb hb0 hb1 => ?_
  refine ⟨by show 2 ≤ sizeLine; decide, fun p hp => ?_⟩
  have mem3 : ∀ {x y z w : Addr}, w ∈ (Sl.own x (dL2 y z [] [])).ads → w = x ∨ w = y ∨ w = z := fun h => by simpa [Sl.ads, OC.more] using h
  obtain ⟨R1, k1⟩ := R.setG e1 (p := a) (c := dL2 a0 a1 [] []) (fun w hw => by rcases mem3 hw with e | e | e <;> (rw [e]; assumption)) (fun w hw => by rcases mem3 hw with e | e | e <;> (rw [e]; simp [ha, ha0, ha1])) (by simp [Sl.ads, OC.more, d1, d2, d3]) (ok_new2 ha ha0 ha1) i
  obtain ⟨R2, k2⟩ := R1.setG (e2.trans (Ex.new hp)) (p := b) (c := dL2 b0 b1 [] []) (fun w hw => by rcases mem3 hw with e | e | e <;> (rw [e]; assumption))
    (fun w hw => by rcases mem3 hw with e | e | e <;> (rw [e]; exact fun z => by have := (Ex.new (G := S.G) (o := .tup [V.ref a, V.ref b]) hp).s _ z; simp_all))
    (by simp [Sl.ads, OC.more, d4, d5, d6]) (ok_new2 ((Ex.new (G := S.G) hp).at hb) ((Ex.new (G := S.G) hp).at hb0) ((Ex.new (G := S.G) hp).at hb1)) j
  exact ⟨p, _, rfl, SqT.of upd_same, rfl, _, _, rfl, _, _, rfl, rfl, l.nx _ _ _ R2 (k1.trans k2) (h a a0 a1 b b0 b1)⟩
/-- d[k].append(e), d two owned lists by the numbers 0 and 1 -/
theorem ws_appD {i : Nat} {a b0 b1 : Addr} {xs ys : List D} (hi : ρ[i]? = some (.own a (dL2 b0 b1 xs ys))) (hx : xs.length < 1000) (hy : ys.length < 1000)
    (h : WE S tk ρ fun k => (k = .int 0 ∧ WE S te ρ fun d => E.nx (ρ.set i (.own a (dL2 b0 b1 (xs ++ [d]) ys)))) ∨ (k = .int 1 ∧ WE S te ρ fun d => E.nx (ρ.set i (.own a (dL2 b0 b1 xs (ys ++ [d])))))) :
    WS S (tDrop (tBM S.G.K "list" rAppend (tDGet (tVar i) tk) (tCons te tNil))) ρ E := fun σ H Dv R l => by
  obtain ⟨h1, _⟩ := R.varO hi
  have big : 1000 ≤ sizeLine := by decide
  refine ⟨.ref a, h1, h σ H R _ fun v H1 k e1 q1 hk => ?_⟩
  have R1 := R.mono e1
  obtain ⟨_, g1, g2⟩ := R1.varO hi
  obtain ⟨us0, g3, g4⟩ := g2 (.inl 0, b0, xs) (by simp)
  obtain ⟨us1, g5, g6⟩ := g2 (.inl 1, b1, ys) (by simp)
  have nd : a ≠ b0 ∧ a ≠ b1 ∧ b0 ≠ b1 := by
    have z := R.dis
    have : (Sl.own a (dL2 b0 b1 xs ys)).ads.Nodup := by
      obtain ⟨pre, post, e⟩ := List.append_of_mem (List.mem_of_getElem? hi)
      rw [e] at z
      unfold owns at z
      rw [List.flatMap_append, List.flatMap_cons] at z
      exact (List.nodup_append.mp (List.nodup_append.mp z).2.1).1
    simp [Sl.ads, OC.more] at this
    exact ⟨this.1.1, this.1.2, this.2⟩
  rcases hk with ⟨ek, hw⟩ | ⟨ek, hw⟩
  · subst ek
    rw [dq_int q1]
    refine ⟨a, .ref b0, rfl, by have := DGet.k (k := .inl 0) g1; exact this, .inl ⟨rfl, us0, SqL.of g3⟩, hw σ H1 R1 _ fun u H2 d e2 q2 z => ?_⟩
    have R2 := R1.mono e2
    have g3' := e2.at g3
    have g5' := e2.at g5
    obtain ⟨R3, k3⟩ := R2.write (b := b0) (o := .lst us0) (o' := .lst (us0 ++ [u])) (c' := dL2 b0 b1 (xs ++ [d]) ys) hi (by simp [Sl.ads, OC.more]) g3' trivial (by simp [Sl.ads, OC.more]) ⟨by rw [upd_ne nd.1]; exact e2.at g1, fun r hr => by
      have x := ext_upd (Bh := hid S.B ρ) (o' := .lst (us0 ++ [u])) (.inr (mem_owns hi (by simp [Sl.ads, OC.more]))) g3' trivial
      have e : r = (.inl 0, b0, xs ++ [d]) ∨ r = (.inl 1, b1, ys) := by simpa using hr
      rcases e with e | e
      · subst e
        exact ⟨_, upd_same, ((g4.mono e2).append (.cons q2 .nil)).ext x⟩
      · subst e
        exact ⟨_, by rw [upd_ne (Ne.symm nd.2.2)]; exact g5', (g6.mono e2).ext x⟩⟩
    exact ⟨b0, us0, u, rfl, rfl, g3', by rw [g4.length]; exact Nat.lt_of_lt_of_le hx big, l.nx _ _ _ R3 ((Keep.of (e1.trans e2)).trans k3) z⟩
  · subst ek
    rw [dq_int q1]
    refine ⟨a, .ref b1, rfl, by have := DGet.k (k := .inl 1) g1; exact this, .inl ⟨rfl, us1, SqL.of g5⟩, hw σ H1 R1 _ fun u H2 d e2 q2 z => ?_⟩
    have R2 := R1.mono e2
    have g3' := e2.at g3
    have g5' := e2.at g5
    obtain ⟨R3, k3⟩ := R2.write (b := b1) (o := .lst us1) (o' := .lst (us1 ++ [u])) (c' := dL2 b0 b1 xs (ys ++ [d])) hi (by simp [Sl.ads, OC.more]) g5' trivial (by simp [Sl.ads, OC.more]) ⟨by rw [upd_ne nd.2.1]; exact e2.at g1, fun r hr => by
      have x := ext_upd (Bh := hid S.B ρ) (o' := .lst (us1 ++ [u])) (.inr (mem_owns hi (by simp [Sl.ads, OC.more]))) g5' trivial
      have e : r = (.inl 0, b0, xs) ∨ r = (.inl 1, b1, ys ++ [d]) := by simpa using hr
      rcases e with e | e
      · subst e
        exact ⟨_, by rw [upd_ne nd.2.2]; exact g3', (g4.mono e2).ext x⟩
      · subst e
        exact ⟨_, upd_same, ((g6.mono e2).append (.cons q2 .nil)).ext x⟩⟩
    exact ⟨b1, us1, u, rfl, rfl, g5', by rw [g6.length]; exact Nat.lt_of_lt_of_le hy big, l.nx _ _ _ R3 ((Keep.of (e1.trans e2)).trans k3) z⟩
end
end Sw
end

section
set_option Elab.async false
set_option autoImplicit false
set_option linter.all false
set_option maxRecDepth 100000
set_option maxHeartbeats 4000000
namespace Sw
open PySem PySem.Spec PyProof.Rows L2
def N__law_do_meet : List Str := ["rows", "others", "fixed", "led", "one", "other", "a", "b", "many", "side", "ahead", "kind", "row"]
theorem nd__law_do_meet : N__law_do_meet.Nodup := by decide +kernel
def t__law_do_meet (G : Gx) : TS :=
    (tSeq (tAsg (tTup (tCons (tDisp (((tC (.int 0)), (tLst tNil)) :: (((tC (.int 1)), (tLst tNil)) :: []))) (tCons (tDisp (((tC (.int 0)), (tLst tNil)) :: (((tC (.int 1)), (tLst tNil)) :: []))) tNil))) (gTup G.K 2 (gCons (gName 2) (gCons (gName 3) gNil))))
    (tSeq (tFor (iZipK G.K (tCons (tVar 0) (tCons (tVar 1) tNil))) (gTup G.K 2 (gCons (gName 4) (gCons (gName 5) gNil))) (tSeq (tPar 6 7 (tCons (tSl (rSlU G.K) (tVar 4) tNoPart (tPart (tUn (rU fun i => .int (-i)) (tC (.int 1))))) (tCons (tSl (rSlU G.K) (tVar 5) tNoPart (tPart (tUn (rU fun i => .int (-i)) (tC (.int 1))))) tNil)))
    (tIfS (tAnd (tTest (tOp (rNeD G.K) (tOp (rIx G.K) (tVar 4) (tUn (rU fun i => .int (-i)) (tC (.int 1)))) (tC (.str "T")))) (tTest (tOp (rNeD G.K) (tOp (rIx G.K) (tVar 5) (tUn (rU fun i => .int (-i)) (tC (.int 1)))) (tC (.str "T"))))) (tIfS (tTest (tOp (rNeD G.K) (tVar 4) (tVar 5))) (tRet (tC (.bl false))) tNext) (tIfS (tAnd (tTest (tOp (rEqD G.K) (tOp (rIx G.K) (tVar 4) (tUn (rU fun i => .int (-i)) (tC (.int 1)))) (tC (.str "T")))) (tTest (tOp (rEqD G.K) (tOp (rIx G.K) (tVar 5) (tUn (rU fun i => .int (-i)) (tC (.int 1)))) (tC (.str "T"))))) (tSeq (tAsg (tCB (rMinU) (tCons (tCB (rLenU G.K) (tCons (tVar 6) tNil)) (tCons (tCB (rLenU G.K) (tCons (tVar 7) tNil)) tNil))) (gName 8))
    (tSeq (tIfS (tTest (tOp (rNeD G.K) (tSl (rSlU G.K) (tVar 6) tNoPart (tPart (tVar 8))) (tSl (rSlU G.K) (tVar 7) tNoPart (tPart (tVar 8))))) (tRet (tC (.bl false))) tNext)
    (tDrop (tBM G.K "list" rAppend (tDGet (tVar 3) (tCB (rIntU) (tCons (tOp rGtU (tCB (rLenU G.K) (tCons (tVar 6) tNil)) (tCB (rLenU G.K) (tCons (tVar 7) tNil))) tNil))) (tCons (tSl (rSlU G.K) (tIf (tTest (tOp rLeU (tCB (rLenU G.K) (tCons (tVar 6) tNil)) (tCB (rLenU G.K) (tCons (tVar 7) tNil)))) (tVar 7) (tVar 6)) (tPart (tVar 8)) tNoPart) tNil))))) (tSeq (tAsg (tCB (rIntU) (tCons (tOp (rNeD G.K) (tOp (rIx G.K) (tVar 4) (tUn (rU fun i => .int (-i)) (tC (.int 1)))) (tC (.str "T"))) tNil)) (gName 9))
    (tSeq (tAsg (tIf (tTest (tOp (rEqD G.K) (tVar 9) (tC (.int 0)))) (tTup (tCons (tVar 6) (tCons (tVar 5) tNil))) (tTup (tCons (tVar 7) (tCons (tVar 4) tNil)))) (gTup G.K 2 (gCons (gName 10) (gCons (gName 11) gNil))))
    (tSeq (tIfS (tOr (tTest (tOp rLeU (tCB (rLenU G.K) (tCons (tVar 11) tNil)) (tCB (rLenU G.K) (tCons (tVar 10) tNil)))) (tTest (tOp (rNeD G.K) (tSl (rSlU G.K) (tVar 11) tNoPart (tPart (tCB (rLenU G.K) (tCons (tVar 10) tNil)))) (tVar 10)))) (tRet (tC (.bl false))) tNext)
    (tDrop (tBM G.K "list" rAppend (tDGet (tVar 2) (tVar 9)) (tCons (tSl (rSlU G.K) (tVar 11) (tPart (tCB (rLenU G.K) (tCons (tVar 10) tNil))) tNoPart) tNil))))))))))
    (tSeq (tIfS (tTest (tOp (rNeD G.K) (tLc (iSeq G.K (tTup (tCons (tC (.int 0)) (tCons (tC (.int 1)) tNil)))) (gName 9) (tOr (tTest (tOp rGtU (tLenSet G.K (tDGet (tVar 3) (tVar 9))) (tC (.int 1)))) (tTest (tOp rGtU (tLenSet G.K (tDGet (tVar 2) (tVar 9))) (tC (.int 1))))) (tC (.int 1)) [9]) (tLst tNil))) (tRet (tC (.bl false))) tNext)
    (tSeq (tIfS (tAnd (tTest (tOp (rNeD G.K) (tDGet (tVar 3) (tC (.int 0))) (tLst tNil))) (tAnd (tTest (tOp (rNeD G.K) (tDGet (tVar 3) (tC (.int 1))) (tLst tNil))) (tOr (tTest (tOp (rNeD G.K) (tOp (rIx G.K) (tDGet (tVar 3) (tC (.int 0))) (tC (.int 0))) (tTup tNil))) (tTest (tOp (rNeD G.K) (tOp (rIx G.K) (tDGet (tVar 3) (tC (.int 1))) (tC (.int 0))) (tTup tNil)))))) (tRet (tC (.bl false))) tNext)
    (tSeq (tFor (iSeq G.K (tTup (tCons (tC (.int 0)) (tCons (tC (.int 1)) tNil)))) (gName 9) (tFor (iSeq G.K (tSl (rSlU G.K) (tDGet (tVar 3) (tVar 9)) tNoPart (tPart (tC (.int 1))))) (gName 12) (tSeq (tIfS (tAnd (tTest (tOp (rNeD G.K) (tDGet (tVar 2) (tOp rSubU (tC (.int 1)) (tVar 9))) (tLst tNil))) (tAnd (tTest (tOp (rNeD G.K) (tDGet (tVar 2) (tVar 9)) (tLst tNil))) (tTest (tOp (rNeD G.K) (tOp (rIx G.K) (tDGet (tVar 2) (tVar 9)) (tC (.int 0))) (tOp (rAddU G.K) (tVar 12) (tOp (rIx G.K) (tDGet (tVar 2) (tOp rSubU (tC (.int 1)) (tVar 9))) (tC (.int 0)))))))) (tRet (tC (.bl false))) tNext)
    (tIfS (tAnd (tTest (tOp (rNeD G.K) (tDGet (tVar 2) (tVar 9)) (tLst tNil))) (tOr (tTest (tOp (rNeD G.K) (tSl (rSlU G.K) (tOp (rIx G.K) (tDGet (tVar 2) (tVar 9)) (tC (.int 0))) tNoPart (tPart (tCB (rLenU G.K) (tCons (tVar 12) tNil)))) (tVar 12))) (tTest (tOp rLeU (tCB (rLenU G.K) (tCons (tOp (rIx G.K) (tDGet (tVar 2) (tVar 9)) (tC (.int 0))) tNil)) (tCB (rLenU G.K) (tCons (tVar 12) tNil)))))) (tRet (tC (.bl false))) tNext))))
    (tRet (tC (.bl true))))))))
end Sw
end

section
set_option Elab.async false
set_option autoImplicit false
set_option linter.all false
set_option maxRecDepth 100000
set_option maxHeartbeats 4000000
namespace Sw
open PySem PySem.Spec PyProof.Rows L2
section
variable {G : Gx} {B : Addr → Prop} {H0 H : Hp} {σ : L2.St} {ρ : List Sl}
/-- a hidden thing that is new is written -/
theorem Rho.writeHid (R : Rho G B H0 H σ ρ) {b : Addr} {o o' : HO} (hb : B b) (n : H0 b = none) (h : H b = some o) (w : Wr o) : Rho G B H0 (upd H b o') σ ρ ∧ Keep G B H ρ (upd H b o') ρ := by
  have x := ext_upd (Bh := hid B ρ) (o' := o') (.inl hb) h w
  have no : b ∉ owns ρ := fun z => R.nb b z hb
  have tr : ∀ a, H a ≠ none → upd H b o' a ≠ none := fun a ha => by
    by_cases e : a = b
    · subst e
      rw [upd_same]
      exact fun z => nomatch z
    · rw [upd_ne e]
      exact ha
  refine ⟨⟨G.tbw _ _ _ _ h w R.tb, R.ex.wr n h w, fun a q => tr a (R.bs a q), R.nb, R.len, fun i s e => ?_, R.own, fun a q => tr a (R.tr a q), R.dis⟩, fun v d hd => hd.ext x⟩
  obtain ⟨u, h1, h2⟩ := R.at_ i s e
  refine ⟨u, h1, ?_⟩
  cases s with
  | no => trivial
  | d y =>
    obtain ⟨v, e1, e2⟩ := h2
    exact ⟨v, e1, e2.ext x⟩
  | own p cc =>
    obtain ⟨e1, e2⟩ := h2
    exact ⟨e1, e2.ext (.inl hb) h w fun z => no (mem_owns e z)⟩
end
section
variable {S : Sc} {ρ : List Sl} {tk : TE} {wi : TI} {E : DE}
theorem ws_retPop {i j : Nat} {a : Addr} {xs : List D} (hi : ρ[i]? = some (.own a (.lst xs))) (hj : ∃ s, ρ[j]? = some s ∧ s.ads = []) (hij : i ≠ j) (h : WI S wi ρ fun ds =>
      (∀ p d acc left, xs.Perm (acc ++ left) → acc.length < ds.length → WE (S.in p) tk ((ρ.set i (.own a (.lst left))).set j (.d d)) fun k => ∃ n m, k = .int n ∧ -(2 ^ 63) ≤ n ∧ n < 2 ^ 63 ∧ seqIndex? n left.length = some m ∧ m < left.length) ∧
      ∀ acc left, xs.Perm (acc ++ left) → acc.length = ds.length → E.rt (.lst acc)) :
    WS S (tRet (tLc wi (gName j) tYes (tBM S.G.K "list" rPopAt (tVar i) (tCons tk tNil)) [j])) ρ E := fun σ H Dv R l => by
  obtain ⟨s, hs, ha⟩ := hj
  refine h σ H R _ fun J H1 us es ds e1 q1 dw sz ⟨hk, hd⟩ Dn hD => ?_
  have R1 := R.mono e1
  have ho : owns (wipeR ρ [j]) = owns ρ := owns_setno hs ha
  have eD : Ex S.G H1 (upd H1 Dn (.lst [])) := Ex.new hD
  have nD0 : S.H0 Dn = none := nf R1.ex hD
  have nB : ¬ S.B Dn := fun z => R1.bs Dn z hD
  have hw : (wipeR ρ [j])[i]? = some (.own a (.lst xs)) := by
    show (ρ.set j .no)[i]? = _
    rw [List.getElem?_set_ne (Ne.symm hij)]
    exact hi
  have R2 : Rho S.G (wth S.B Dn) S.H0 (upd H1 Dn (.lst [])) (wipe σ [j]) (wipeR ρ [j]) := (R1.wipe [j]).hide eD hD (by rw [upd_same]; exact fun z => nomatch z)
  have q2 : DqL S.G (hid (wth S.B Dn) (wipeR ρ [j])) (upd H1 Dn (.lst [])) us es := ((q1.fresh hD).mono eD).less fun a z => (hid_wth ho a).mp z
  let Pv : Nat → Hp → Prop := fun n H' => ∃ acc left ws, Rho S.G (wth S.B Dn) S.H0 H' (wipe σ [j]) ((wipeR ρ [j]).set i (.own a (.lst left))) ∧ DqL S.G (hid (wth S.B Dn) ((wipeR ρ [j]).set i (.own a (.lst left)))) H' us es ∧
    H' Dn = some (.lst ws) ∧ DqL S.G (hid (wth S.B Dn) ((wipeR ρ [j]).set i (.own a (.lst left)))) H' ws acc ∧ acc.length = n ∧ xs.Perm (acc ++ left)
  refine ⟨fun n m H' => m = ds.length - n ∧ n ≤ ds.length ∧ Pv n H', ⟨_, rfl, Nat.zero_le _, [], xs, [], by rw [set_same hw]; exact R2, by rw [set_same hw]; exact q2, upd_same, .nil, rfl, .refl _⟩, ?_⟩
  rintro n m H' ⟨rfl, hn, acc, left, ws, R3, q3, hDs, qa, la, pm⟩
  obtain ⟨go, stop, yld⟩ := dw _ H' R3.alc q3
  by_cases hlt : n < ds.length
  · refine .inr ⟨go n hlt, fun H2 => Pv (n + 1) H2, fun H2 p2 => ⟨ds.length - (n + 1), by omega, rfl, hlt, p2⟩, fun x H2 y => ?_⟩
    obtain ⟨e3, d, hd2, qx⟩ := yld n x H2 hlt y
    refine wg_name (S := S.in Dn) (Q := fun ρ2 => ρ2 = ((wipeR ρ [j]).set i (.own a (.lst left))).set j (.d d)) rfl (wipe σ [j]) H2 x (R3.mono e3) qx _ fun σ3 H3 ρ3 R4 e5 hs3 hwp e9 => ⟨?_, ?_⟩
    · have := hwp [j] fun _ h => h
      rw [this]
      exact wipe_wipe [j]
    · have eρ : ((wipeR ρ [j]).set i (.own a (.lst left))).set j (.d d) = (ρ.set i (.own a (.lst left))).set j (.d d) := by
        show ((ρ.set j .no).set i _).set j _ = _
        rw [List.set_comm _ _ (Ne.symm hij), List.set_set]
      have hlen : i < ρ.length := (List.getElem?_eq_some_iff.mp hi).1
      have hi3 : ρ3[i]? = some (.own a (.lst left)) := by
        rw [e9, eρ, List.getElem?_set_ne (Ne.symm hij), List.getElem?_set_self hlen]
      refine (wt_yes (S := S.in Dn) (ρ := ρ3) (Q := fun b => b = true) rfl) σ3 H3 R4 _ fun b H4 e6 eb => ?_
      subst eb
      refine ift ?_
      have R5 := R4.mono e6
      obtain ⟨g1, vs, g2, g3⟩ := R5.varO hi3
      refine ⟨.ref a, g1, .inl ⟨rfl, vs, SqL.of g2⟩, ?_⟩
      have hk5 := hk Dn d acc left pm (by omega)
      rw [← eρ, ← e9] at hk5
      refine hk5 σ3 H4 R5 _ fun kv H5 kd e7 qk ⟨n', m', ek, b1, b2, hix, hm⟩ => ?_
      subst ek
      rw [dq_int qk]
      have R6 := R5.mono e7
      have g2' := e7.at g2
      have g3' := g3.mono e7
      obtain ⟨v, hv, qv⟩ := g3'.get (List.getElem?_eq_getElem hm)
      refine ⟨a, vs, n', m', v, rfl, rfl, g2', b1, b2, by rw [g3'.length]; exact hix, hv, ?_⟩
      have eA : Ex S.G H' H5 := (e3.trans e5).trans (e6.trans e7)
      have hD5 := eA.at hDs
      obtain ⟨R7, k7⟩ := R6.lst hi3 (g3'.eraseIdx m')
      have aD : a ≠ Dn := fun e => R6.nb a (mem_owns hi3 (by simp [Sl.ads])) (.inr e)
      have hD7 : upd H5 a (.lst (vs.eraseIdx m')) Dn = some (.lst ws) := by
        rw [upd_ne (Ne.symm aD)]
        exact hD5
      -- the state behind: the loop's name is wiped again
      have back : Rho S.G (wth S.B Dn) S.H0 (upd H5 a (.lst (vs.eraseIdx m'))) (wipe σ [j]) ((wipeR ρ [j]).set i (.own a (.lst (left.eraseIdx m')))) := by
        have z := R7.wipe [j]
        have ew : wipe σ3 [j] = wipe σ [j] := by
          have := hwp [j] fun _ h => h
          rw [this]
          exact wipe_wipe [j]
        rw [ew] at z
        have er : wipeR (ρ3.set i (.own a (.lst (left.eraseIdx m')))) [j] = (wipeR ρ [j]).set i (.own a (.lst (left.eraseIdx m'))) := by
          rw [e9, eρ]
          show (((ρ.set i _).set j _).set i _).set j _ = (ρ.set j _).set i _
          rw [List.set_comm _ _ (Ne.symm hij), List.set_set, List.set_comm _ _ (Ne.symm hij), List.set_comm (l := ρ) _ _ hij, List.set_set, List.set_comm _ _ (Ne.symm hij)]
        rw [er] at z
        exact z
      have hidE : ∀ (u u' : Sl) (l1 : List D) b, u.ads = [] → hid (wth S.B Dn) ((wipeR ρ [j]).set i (.own a (.lst l1))) b → hid (wth S.B Dn) ρ3 b := fun u u' l1 b hu z => by
        rcases z with z | z
        · exact .inl z
        · refine .inr ?_
          have o1 : owns ((wipeR ρ [j]).set i (.own a (.lst l1))) = owns (wipeR ρ [j]) := owns_set_ads (t := .own a (.lst l1)) hw rfl
          have hj0 : (wipeR ρ [j])[j]? = some .no := by
            show (ρ.set j .no)[j]? = _
            exact List.getElem?_set_self (List.getElem?_eq_some_iff.mp hs).1
          have o2 : owns ρ3 = owns (wipeR ρ [j]) := by
            have t1 := owns_set_ads (t := .d d) (s := .no) (ρ := (wipeR ρ [j]).set i (.own a (.lst left))) (i := j) (by rw [List.getElem?_set_ne hij]; exact hj0) rfl
            have t2 := owns_set_ads (t := .own a (.lst left)) hw rfl
            rw [e9, t1, t2]
          rw [o1] at z
          rw [o2]
          exact z
      have hidB : ∀ (l1 : List D) b, hid (wth S.B Dn) ρ3 b → hid (wth S.B Dn) ((wipeR ρ [j]).set i (.own a (.lst l1))) b := fun l1 b z => by
        rcases z with z | z
        · exact .inl z
        · refine .inr ?_
          have hj0 : (wipeR ρ [j])[j]? = some .no := by
            show (ρ.set j .no)[j]? = _
            exact List.getElem?_set_self (List.getElem?_eq_some_iff.mp hs).1
          have o2 : owns ρ3 = owns (wipeR ρ [j]) := by
            have t1 := owns_set_ads (t := .d d) (s := .no) (ρ := (wipeR ρ [j]).set i (.own a (.lst left))) (i := j) (by rw [List.getElem?_set_ne hij]; exact hj0) rfl
            have t2 := owns_set_ads (t := .own a (.lst left)) hw rfl
            rw [e9, t1, t2]
          rw [owns_set_ads (t := .own a (.lst l1)) hw rfl]
          rw [o2] at z
          exact z
      have xa := ext_upd (Bh := hid (wth S.B Dn) ρ3) (o' := .lst (vs.eraseIdx m')) (.inr (mem_owns hi3 (by simp [Sl.ads]))) g2' trivial
      have mv : ∀ {us : List V} {es : List D}, DqL S.G (hid (wth S.B Dn) ((wipeR ρ [j]).set i (.own a (.lst left)))) H' us es → DqL S.G (hid (wth S.B Dn) ((wipeR ρ [j]).set i (.own a (.lst (left.eraseIdx m'))))) (upd H5 a (.lst (vs.eraseIdx m'))) us es := fun q =>
        (((q.mono eA).less fun b z => hidB left b z).ext xa).less fun b z => hidE .no .no _ b rfl z
      obtain ⟨R8, k8⟩ := back.writeHid (b := Dn) (o' := .lst (ws ++ [v])) (.inr rfl) nD0 hD7 trivial
      refine ⟨ws, hD7, ?_, acc ++ [left[m']], left.eraseIdx m', ws ++ [v], R8, k8.l (mv q3), upd_same, ?_, by rw [List.length_append, la] <;> rfl, ?_⟩
      · rw [qa.length]
        omega
      · refine k8.l ((mv qa).append (.cons ?_ .nil))
        exact (qv.ext xa).less fun b z => hidE .no .no _ b rfl z
      · refine pm.trans ?_
        rw [List.append_assoc]
        refine List.Perm.append_left acc ?_
        have e2 : left.eraseIdx m' = left.take m' ++ left.drop (m' + 1) := List.eraseIdx_eq_take_drop_succ ..
        rw [e2]
        have e3 : left = left.take m' ++ left[m'] :: left.drop (m' + 1) := by simp
        have p3 : (left.take m' ++ left[m'] :: left.drop (m' + 1)).Perm (left[m'] :: (left.take m' ++ left.drop (m' + 1))) := List.perm_middle
        rw [← e3] at p3
        exact p3
  · have e : n = ds.length := by omega
    subst e
    refine .inl ⟨stop, l.rt (.ref Dn) H' (.lst acc) R3.ex (.lst hDs nB (qa.less fun b z => .inl (.inl z))) (hd acc left pm la)⟩
end
end Sw
end

section
set_option Elab.async false
set_option autoImplicit false
set_option linter.all false
set_option maxRecDepth 100000
set_option maxHeartbeats 4000000
namespace Sw
open PySem PySem.Spec PyProof.Rows L2
def N__law_some : List Str := ["deck", "some", "many", "left", "turn"]
theorem nd__law_some : N__law_some.Nodup := by decide +kernel
def t__law_some (G : Gx) : TS :=
    (tSeq (tAsg (tCB (rLstU G.K) (tCons (tVar 1) tNil)) (gName 3))
    (tRet (tLc (iRng1 (tCons (tVar 2) tNil)) (gName 4) tYes (tBM G.K "list" rPopAt (tVar 3) (tCons (tCall (sp__law_draw G) [] E0 (tCons (tVar 0) (tCons (tCB (rLenU G.K) (tCons (tVar 3) tNil)) tNil))) tNil)) [4])))
end Sw
end

section
set_option Elab.async false
set_option autoImplicit false
set_option linter.all false
set_option maxRecDepth 100000
set_option maxHeartbeats 4000000
namespace Sw
open PySem PySem.Spec PyProof.Rows L2
def N__law_drawn_records : List Str := ["deck", "pool", "hands", "many", "days", "found", "numbers", "turn", "hand"]
theorem nd__law_drawn_records : N__law_drawn_records.Nodup := by decide +kernel
def t__law_drawn_records (G : Gx) : TS :=
    (tSeq (tPar 5 6 (tCons (tLst tNil) (tCons (tOp rMulU (tLst (tCons (tC (.int 0)) tNil)) (tVar 2)) tNil)))
    (tSeq (tFor (iRng1 (tCons (tVar 3) tNil)) (gName 7) (tSeq (tAsg (tCall (sp__law_draw G) [] E0 (tCons (tVar 0) (tCons (tVar 2) tNil))) (gName 8))
    (tSeq (tDrop (tBM G.K "list" rAppend (tVar 5) (tCons (tTup (tCons (tVar 8) (tCons (tOp (rIx G.K) (tVar 6) (tVar 8)) (tCons (tCall (sp__law_pick G) [] E0 (tCons (tVar 0) (tCons (tVar 4) tNil))) (tCons (tCall (sp__law_drawn_deed G) [] E0 (tCons (tVar 0) (tCons (tVar 1) (tCons (tVar 2) (tCons (tVar 5) tNil))))) tNil))))) tNil)))
    (tAsg (tOp (rAddU G.K) (tOp (rIx G.K) (tVar 6) (tVar 8)) (tCall (sp__law_pick G) [] E0 (tCons (tVar 0) (tCons (tLst (tCons (tC (.int 1)) (tCons (tC (.int 1)) (tCons (tC (.int 1)) (tCons (tC (.int 2)) tNil))))) tNil)))) (gSub (tVar 6) (tVar 8) rSetL)))))
    (tRet (tCB (rTupU G.K) (tCons (tCall (sp__law_some G) [] E0 (tCons (tVar 0) (tCons (tVar 5) (tCons (tCB (rLenU G.K) (tCons (tVar 5) tNil)) tNil)))) tNil)))))

def N__law_like : List Str := ["deck", "entry", "parts", "bases", "constructors", "rows", "result", "at", "has", "pattern"]
theorem nd__law_like : N__law_like.Nodup := by decide +kernel
def t__law_like (G : Gx) : TS :=
    (tSeq (tPar 3 4 (tCons (tDGet (tVar 2) (tC (.str "bases"))) (tCons (tDGet (tVar 2) (tC (.str "constructors"))) tNil)))
    (tSeq (tPar 5 6 (tCons (tCB (rLstU G.K) (tCons (tOp (rIx G.K) (tVar 1) (tC (.int 2))) tNil)) (tCons (tCall (sp__law_pick G) [] E0 (tCons (tVar 0) (tCons (tLst (tCons (tOp (rIx G.K) (tVar 1) (tC (.int 3))) (tCons (tOp (rIx G.K) (tVar 1) (tC (.int 3))) (tCons (tCall (sp__law_pattern G) [] E0 (tCons (tVar 0) (tCons (tVar 4) (tCons (tVar 3) (tCons (tC (.int 1)) tNil))))) tNil)))) tNil))) tNil)))
    (tSeq (tIfS (tAnd (tTest (tOp (rNeD G.K) (tVar 5) (tLst tNil))) (tTest (tOp rGtU (tCall (sp__law_draw G) [] E0 (tCons (tVar 0) (tCons (tC (.int 4)) tNil))) (tC (.int 0))))) (tSeq (tAsg (tCall (sp__law_draw G) [] E0 (tCons (tVar 0) (tCons (tCB (rLenU G.K) (tCons (tVar 5) tNil)) tNil))) (gName 7))
    (tSeq (tAsg (tCall (sp__law_pick G) [] E0 (tCons (tVar 0) (tCons (tLst (tCons (tTup (tCons (tC (.str "T")) tNil)) (tCons (tSl (rSlU G.K) (tOp (rIx G.K) (tVar 5) (tVar 7)) tNoPart (tPart (tC (.int 1)))) (tCons (tOp (rAddU G.K) (tSl (rSlU G.K) (tOp (rIx G.K) (tVar 5) (tVar 7)) tNoPart (tPart (tUn (rU fun i => .int (-i)) (tC (.int 1))))) (tTup (tCons (tC (.str "T")) tNil))) (tCons (tCall (sp__law_pattern G) [] E0 (tCons (tVar 0) (tCons (tVar 4) (tCons (tOp (rAddU G.K) (tTup (tCons (tC (.str "T")) tNil)) (tVar 3)) (tCons (tC (.int 2)) tNil))))) tNil))))) tNil))) (gSub (tVar 5) (tVar 7) rSetL))
    (tAsg (tIf (tTest (tOp (rInU G.K) (tOp (rIx G.K) (tOp (rIx G.K) (tVar 5) (tVar 7)) (tUn (rU fun i => .int (-i)) (tC (.int 1)))) (tOp (rAddU G.K) (tTup (tCons (tC (.str "T")) tNil)) (tVar 3)))) (tOp (rIx G.K) (tVar 5) (tVar 7)) (tOp (rIx G.K) (tOp (rIx G.K) (tVar 1) (tC (.int 2))) (tVar 7))) (gSub (tVar 5) (tVar 7) rSetL)))) tNext)
    (tSeq (tAsg (tOp (rNeD G.K) (tLc (iSeq G.K (tVar 5)) (gName 9) (tTest (tOp (rEqD G.K) (tOp (rIx G.K) (tVar 9) (tUn (rU fun i => .int (-i)) (tC (.int 1)))) (tC (.str "T")))) (tC (.int 1)) [9]) (tLst tNil)) (gName 8))
    (tRet (tOp (rAddU G.K) (tSl (rSlU G.K) (tVar 1) tNoPart (tPart (tC (.int 2)))) (tTup (tCons (tCB (rTupU G.K) (tCons (tVar 5) tNil)) (tCons (tIf (tOr (tB (tVar 8)) (tTest (tOp (rNeD G.K) (tOp (rIx G.K) (tVar 6) (tUn (rU fun i => .int (-i)) (tC (.int 1)))) (tC (.str "T"))))) (tVar 6) (tOp (rAddU G.K) (tSl (rSlU G.K) (tVar 6) tNoPart (tPart (tUn (rU fun i => .int (-i)) (tC (.int 1))))) (tSl (rSlU G.K) (tVar 3) tNoPart (tPart (tC (.int 1)))))) tNil)))))))))
end Sw
end

section
set_option Elab.async false
set_option autoImplicit false
set_option linter.all false
set_option maxRecDepth 100000
set_option maxHeartbeats 4000000
namespace Sw
open PySem PySem.Spec PyProof.Rows L2
def N__law_parts : List Str := ["deck", "many", "names", "bases", "constructors", "entries", "turn", "entry", "roles", "role", "one"]
theorem nd__law_parts : N__law_parts.Nodup := by decide +kernel
def t__law_parts (G : Gx) : TS :=
    (tSeq (tAsg (tCall (sp__law_names G) [] E0 (tCons (tVar 0) (tCons (tC (.int 16)) tNil))) (gName 2))
    (tSeq (tAsg (tTup (tCons (tCB (rTupU G.K) (tCons (tCB (rSortedD G.K) (tCons (tSl (rSlU G.K) (tVar 2) tNoPart (tPart (tOp (rAddU G.K) (tC (.int 1)) (tCall (sp__law_draw G) [] E0 (tCons (tVar 0) (tCons (tC (.int 3)) tNil)))))) tNil)) tNil)) (tCons (tCB (rTupU G.K) (tCons (tCB (rSortedD G.K) (tCons (tSl (rSlU G.K) (tVar 2) (tPart (tC (.int 3))) (tPart (tOp (rAddU G.K) (tC (.int 3)) (tCall (sp__law_draw G) [] E0 (tCons (tVar 0) (tCons (tC (.int 4)) tNil)))))) tNil)) tNil)) tNil))) (gTup G.K 2 (gCons (gName 3) (gCons (gName 4) gNil))))
    (tSeq (tAsg (tLst tNil) (gName 5))
    (tSeq (tFor (iRng1 (tCons (tVar 1) tNil)) (gName 6) (tSeq (tAsg (tCall (sp__law_entry G) [] E0 (tCons (tVar 0) (tCons (tSl (rSlU G.K) (tVar 2) (tPart (tC (.int 6))) (tPart (tC (.int 9)))) (tCons (tVar 3) (tCons (tVar 4) tNil))))) (gName 7))
    (tDrop (tBM G.K "list" rExtend (tVar 5) (tCons (tIf (tTest (tOp (rEqD G.K) (tLc (iSeq G.K (tVar 5)) (gName 10) (tB (tCall (sp__law_do_clash G) [] E0 (tCons (tVar 10) (tCons (tVar 7) tNil)))) (tC (.int 1)) [10]) (tLst tNil))) (tLst (tCons (tVar 7) tNil)) (tLst tNil)) tNil)))))
    (tSeq (tAsg (tLc (iRng1 (tCons (tC (.int 3)) tNil)) (gName 9) tYes (tCall (sp__law_pick G) [] E0 (tCons (tVar 0) (tCons (tOp (rAddU G.K) (tCB (rLstU G.K) (tCons (tVar 3) tNil)) (tLst (tCons (tC .non) tNil))) tNil))) [9]) (gName 8))
    (tRet (tDisp (((tC (.str "bases")), (tVar 3)) :: (((tC (.str "constructors")), (tVar 4)) :: (((tC (.str "entries")), (tCB (rTupU G.K) (tCons (tCB (rSortedD G.K) (tCons (tVar 5) tNil)) tNil))) :: (((tC (.str "roles")), (tVar 8)) :: (((tC (.str "names")), (tVar 2)) :: []))))))))))))
end Sw
end

section
set_option Elab.async false
set_option autoImplicit false
set_option linter.all false
set_option maxRecDepth 100000
set_option maxHeartbeats 4000000
namespace Sw
open PySem PySem.Spec PyProof.Rows L2
section
variable {S : Sc} {ρ : List Sl} {te : TE} {E : DE}
theorem ws_parLN {i j : Nat} (h : WN S te ρ fun ys => flatDs ys = true ∧ ∀ p r, E.nx ((ρ.set i (.own p (.lst []))).set j (.own r (.lst ys)))) : WS S (tPar i j (tCons (tLst tNil) (tCons te tNil))) ρ E := fun σ H Dv R l => by
  refine ⟨Nat.zero_le _, fun p hp => ?_⟩
  refine h σ _ (R.mono (Ex.new hp)) _ fun r H2 ws ys n e hr q ⟨fl, z⟩ => ?_
  obtain ⟨R1, k1⟩ := R.setN (Ex.new hp) (vs := []) (ds := []) hp upd_same .nil i
  obtain ⟨R2, k2⟩ := R1.setN e n hr (q.flat fl) j
  exact ⟨_, _, rfl, l.nx _ _ _ R2 (k1.trans k2) (z p r)⟩
/-- two values at once: an own list of flat items, data -/
theorem ws_parNE {i j : Nat} {td : TE} (h : WN S te ρ fun ys => flatDs ys = true ∧ WE S td ρ fun d => flatD d = true ∧ ∀ p, E.nx ((ρ.set i (.own p (.lst ys))).set j (.d d))) (hij : i ≠ j) : WS S (tPar i j (tCons te (tCons td tNil))) ρ E := fun σ H Dv R l => by
  refine h σ H R _ fun p H1 ws ys n e1 hp q ⟨fl, h2⟩ => ?_
  refine h2 σ H1 (R.mono e1) _ fun v H2 d e2 qd ⟨fd, z⟩ => ?_
  obtain ⟨R1, k1⟩ := R.setN e1 n hp q i
  have R1' := R1.mono e2
  refine ⟨_, _, rfl, l.nx _ _ _ (R1'.set j (qd.flat fd)) ?_ (z p)⟩
  exact (k1.trans (.of e2)).trans fun v d hd => hd.less fun a z => hid_set_d (S := S) j _ a z
end
end Sw
end

section
set_option Elab.async false
set_option autoImplicit false
set_option linter.all false
set_option maxRecDepth 100000
set_option maxHeartbeats 4000000
namespace Sw
open PySem PySem.Spec PyProof.Rows L2
def top (i : Nat) : Stmt := PySem.Challenge.pw_sparewright_k95_live_records_and_librari.main.body.getD i (.Pass ⟨0, 0, 0, 0⟩)
abbrev s_put : Stmt := top 10
abbrev s_is_unknown : Stmt := top 11
abbrev s_resolved : Stmt := top 12
abbrev s_differing : Stmt := top 13
abbrev s_unified : Stmt := top 14
abbrev s_unified_all : Stmt := top 15
abbrev s_is_name : Stmt := top 22
abbrev s_is_pattern : Stmt := top 23
abbrev s_has_hole : Stmt := top 24
abbrev s_filled : Stmt := top 25
abbrev s_tail_of : Stmt := top 26
abbrev s_fitted : Stmt := top 27
abbrev s_written : Stmt := top 28
abbrev s_pattern_in : Stmt := top 29
abbrev s_is_name_token : Stmt := top 33
abbrev s_has_parts_of : Stmt := top 40
abbrev s_is_entry_name : Stmt := top 41
abbrev s_fits_number : Stmt := top 42
abbrev s_is_entry : Stmt := top 43
abbrev s_is_entry_of : Stmt := top 44
abbrev s_do_clash : Stmt := top 45
abbrev s_clash_with : Stmt := top 46
abbrev s_show_entry : Stmt := top 49
abbrev s_show_library : Stmt := top 50
abbrev s_entry_in : Stmt := top 51
abbrev s_are_ascending_names : Stmt := top 52
abbrev s_library_parts : Stmt := top 54
abbrev s_read_library : Stmt := top 55
abbrev s_are_names : Stmt := top 57
abbrev s_check_names : Stmt := top 58
abbrev s_check_role : Stmt := top 59
abbrev s_check_clashes : Stmt := top 60
abbrev s_by_names : Stmt := top 61
abbrev s_roles_of : Stmt := top 62
abbrev s_is_entry_for : Stmt := top 65
abbrev s_is_from_nought : Stmt := top 74
abbrev s_is_deed : Stmt := top 75
abbrev s_is_record : Stmt := top 76
abbrev s_name_of : Stmt := top 77
abbrev s_rank_of : Stmt := top 78
abbrev s_are_records : Stmt := top 79
abbrev s_by_rank : Stmt := top 80
abbrev s_live_in : Stmt := top 81
abbrev s_entries_behind : Stmt := top 82
abbrev s_library_of_day : Stmt := top 83
abbrev s_need_records : Stmt := top 85
abbrev s_need_day : Stmt := top 86
abbrev s_live : Stmt := top 87
abbrev s_library_on : Stmt := top 88
abbrev s__law_deck : Stmt := top 90
abbrev s__law_draw : Stmt := top 91
abbrev s__law_pick : Stmt := top 92
abbrev s__law_some : Stmt := top 93
abbrev s__law_do_meet : Stmt := top 94
abbrev s__law_do_clash : Stmt := top 95
abbrev s__law_live : Stmt := top 96
abbrev s__law_entries_on : Stmt := top 97
abbrev s__law_names : Stmt := top 98
abbrev s__law_pattern : Stmt := top 99
abbrev s__law_entry : Stmt := top 100
abbrev s__law_parts : Stmt := top 101
abbrev s__law_library : Stmt := top 102
abbrev s__law_drawn_deed : Stmt := top 103
abbrev s__law_drawn_records : Stmt := top 104
abbrev s__law_like : Stmt := top 105
abbrev s__law_is_told : Stmt := top 106
abbrev s_law : Stmt := top 107
def D_put : He.DefD := ⟨("put", none), "put", "put", defArgs s_put, defBody s_put, defScope s_put, [], []⟩
def D_is_unknown : He.DefD := ⟨("is_unknown", none), "is_unknown", "is_unknown", defArgs s_is_unknown, defBody s_is_unknown, defScope s_is_unknown, [], []⟩
def D_resolved : He.DefD := ⟨("resolved", none), "resolved", "resolved", defArgs s_resolved, defBody s_resolved, defScope s_resolved, [], []⟩
def D_differing : He.DefD := ⟨("differing", none), "differing", "differing", defArgs s_differing, defBody s_differing, defScope s_differing, [], []⟩
def D_unified : He.DefD := ⟨("unified", none), "unified", "unified", defArgs s_unified, defBody s_unified, defScope s_unified, [], []⟩
def D_unified_all : He.DefD := ⟨("unified_all", none), "unified_all", "unified_all", defArgs s_unified_all, defBody s_unified_all, defScope s_unified_all, [], []⟩
def D_is_name : He.DefD := ⟨("is_name", none), "is_name", "is_name", defArgs s_is_name, defBody s_is_name, defScope s_is_name, [], []⟩
def D_is_pattern : He.DefD := ⟨("is_pattern", none), "is_pattern", "is_pattern", defArgs s_is_pattern, defBody s_is_pattern, defScope s_is_pattern, [], []⟩
def D_has_hole : He.DefD := ⟨("has_hole", none), "has_hole", "has_hole", defArgs s_has_hole, defBody s_has_hole, defScope s_has_hole, [], []⟩
def D_filled : He.DefD := ⟨("filled", none), "filled", "filled", defArgs s_filled, defBody s_filled, defScope s_filled, [], []⟩
def D_tail_of : He.DefD := ⟨("tail_of", none), "tail_of", "tail_of", defArgs s_tail_of, defBody s_tail_of, defScope s_tail_of, [], []⟩
def D_fitted : He.DefD := ⟨("fitted", none), "fitted", "fitted", defArgs s_fitted, defBody s_fitted, defScope s_fitted, [], []⟩
def D_written : He.DefD := ⟨("written", none), "written", "written", defArgs s_written, defBody s_written, defScope s_written, [], []⟩
def D_pattern_in : He.DefD := ⟨("pattern_in", none), "pattern_in", "pattern_in", defArgs s_pattern_in, defBody s_pattern_in, defScope s_pattern_in, [], []⟩
def D_is_name_token : He.DefD := ⟨("is_name_token", none), "is_name_token", "is_name_token", defArgs s_is_name_token, defBody s_is_name_token, defScope s_is_name_token, [], []⟩
def D_has_parts_of : He.DefD := ⟨("has_parts_of", none), "has_parts_of", "has_parts_of", defArgs s_has_parts_of, defBody s_has_parts_of, defScope s_has_parts_of, [], []⟩
def D_is_entry_name : He.DefD := ⟨("is_entry_name", none), "is_entry_name", "is_entry_name", defArgs s_is_entry_name, defBody s_is_entry_name, defScope s_is_entry_name, [], []⟩
def D_fits_number : He.DefD := ⟨("fits_number", none), "fits_number", "fits_number", defArgs s_fits_number, defBody s_fits_number, defScope s_fits_number, [], []⟩
def D_is_entry : He.DefD := ⟨("is_entry", none), "is_entry", "is_entry", defArgs s_is_entry, defBody s_is_entry, defScope s_is_entry, [], []⟩
def D_is_entry_of : He.DefD := ⟨("is_entry_of", none), "is_entry_of", "is_entry_of", defArgs s_is_entry_of, defBody s_is_entry_of, defScope s_is_entry_of, [], []⟩
def D_do_clash : He.DefD := ⟨("do_clash", none), "do_clash", "do_clash", defArgs s_do_clash, defBody s_do_clash, defScope s_do_clash, [], []⟩
def D_clash_with : He.DefD := ⟨("clash_with", none), "clash_with", "clash_with", defArgs s_clash_with, defBody s_clash_with, defScope s_clash_with, [], []⟩
def D_show_entry : He.DefD := ⟨("show_entry", none), "show_entry", "show_entry", defArgs s_show_entry, defBody s_show_entry, defScope s_show_entry, [], []⟩
def D_show_library : He.DefD := ⟨("show_library", none), "show_library", "show_library", defArgs s_show_library, defBody s_show_library, defScope s_show_library, [], []⟩
def D_entry_in : He.DefD := ⟨("entry_in", none), "entry_in", "entry_in", defArgs s_entry_in, defBody s_entry_in, defScope s_entry_in, [], []⟩
def D_are_ascending_names : He.DefD := ⟨("are_ascending_names", none), "are_ascending_names", "are_ascending_names", defArgs s_are_ascending_names, defBody s_are_ascending_names, defScope s_are_ascending_names, [], []⟩
def D_library_parts : He.DefD := ⟨("library_parts", none), "library_parts", "library_parts", defArgs s_library_parts, defBody s_library_parts, defScope s_library_parts, [], []⟩
def D_read_library : He.DefD := ⟨("read_library", none), "read_library", "read_library", defArgs s_read_library, defBody s_read_library, defScope s_read_library, [], []⟩
def D_are_names : He.DefD := ⟨("are_names", none), "are_names", "are_names", defArgs s_are_names, defBody s_are_names, defScope s_are_names, [], []⟩
def D_check_names : He.DefD := ⟨("check_names", none), "check_names", "check_names", defArgs s_check_names, defBody s_check_names, defScope s_check_names, [], []⟩
def D_check_role : He.DefD := ⟨("check_role", none), "check_role", "check_role", defArgs s_check_role, defBody s_check_role, defScope s_check_role, [], []⟩
def D_check_clashes : He.DefD := ⟨("check_clashes", none), "check_clashes", "check_clashes", defArgs s_check_clashes, defBody s_check_clashes, defScope s_check_clashes, [], []⟩
def D_by_names : He.DefD := ⟨("by_names", none), "by_names", "by_names", defArgs s_by_names, defBody s_by_names, defScope s_by_names, [], []⟩
def D_roles_of : He.DefD := ⟨("roles_of", none), "roles_of", "roles_of", defArgs s_roles_of, defBody s_roles_of, defScope s_roles_of, [], []⟩
def D_is_entry_for : He.DefD := ⟨("is_entry_for", none), "is_entry_for", "is_entry_for", defArgs s_is_entry_for, defBody s_is_entry_for, defScope s_is_entry_for, [], []⟩
def D_is_from_nought : He.DefD := ⟨("is_from_nought", none), "is_from_nought", "is_from_nought", defArgs s_is_from_nought, defBody s_is_from_nought, defScope s_is_from_nought, [], []⟩
def D_is_deed : He.DefD := ⟨("is_deed", none), "is_deed", "is_deed", defArgs s_is_deed, defBody s_is_deed, defScope s_is_deed, [], []⟩
def D_is_record : He.DefD := ⟨("is_record", none), "is_record", "is_record", defArgs s_is_record, defBody s_is_record, defScope s_is_record, [], []⟩
def D_name_of : He.DefD := ⟨("name_of", none), "name_of", "name_of", defArgs s_name_of, defBody s_name_of, defScope s_name_of, [], []⟩
def D_rank_of : He.DefD := ⟨("rank_of", none), "rank_of", "rank_of", defArgs s_rank_of, defBody s_rank_of, defScope s_rank_of, [], []⟩
def D_are_records : He.DefD := ⟨("are_records", none), "are_records", "are_records", defArgs s_are_records, defBody s_are_records, defScope s_are_records, [], []⟩
def D_by_rank : He.DefD := ⟨("by_rank", none), "by_rank", "by_rank", defArgs s_by_rank, defBody s_by_rank, defScope s_by_rank, [], []⟩
def D_live_in : He.DefD := ⟨("live_in", none), "live_in", "live_in", defArgs s_live_in, defBody s_live_in, defScope s_live_in, [], []⟩
def D_entries_behind : He.DefD := ⟨("entries_behind", none), "entries_behind", "entries_behind", defArgs s_entries_behind, defBody s_entries_behind, defScope s_entries_behind, [], []⟩
def D_library_of_day : He.DefD := ⟨("library_of_day", none), "library_of_day", "library_of_day", defArgs s_library_of_day, defBody s_library_of_day, defScope s_library_of_day, [], []⟩
def D_need_records : He.DefD := ⟨("need_records", none), "need_records", "need_records", defArgs s_need_records, defBody s_need_records, defScope s_need_records, [], []⟩
def D_need_day : He.DefD := ⟨("need_day", none), "need_day", "need_day", defArgs s_need_day, defBody s_need_day, defScope s_need_day, [], []⟩
def D_live : He.DefD := ⟨("live", none), "live", "live", defArgs s_live, defBody s_live, defScope s_live, [], []⟩
def D_library_on : He.DefD := ⟨("library_on", none), "library_on", "library_on", defArgs s_library_on, defBody s_library_on, defScope s_library_on, [], []⟩
def D__law_deck : He.DefD := ⟨("_law_deck", none), "_law_deck", "_law_deck", defArgs s__law_deck, defBody s__law_deck, defScope s__law_deck, [], []⟩
def D__law_draw : He.DefD := ⟨("_law_draw", none), "_law_draw", "_law_draw", defArgs s__law_draw, defBody s__law_draw, defScope s__law_draw, [], []⟩
def D__law_pick : He.DefD := ⟨("_law_pick", none), "_law_pick", "_law_pick", defArgs s__law_pick, defBody s__law_pick, defScope s__law_pick, [], []⟩
def D__law_some : He.DefD := ⟨("_law_some", none), "_law_some", "_law_some", defArgs s__law_some, defBody s__law_some, defScope s__law_some, [], []⟩
def D__law_do_meet : He.DefD := ⟨("_law_do_meet", none), "_law_do_meet", "_law_do_meet", defArgs s__law_do_meet, defBody s__law_do_meet, defScope s__law_do_meet, [], []⟩
def D__law_do_clash : He.DefD := ⟨("_law_do_clash", none), "_law_do_clash", "_law_do_clash", defArgs s__law_do_clash, defBody s__law_do_clash, defScope s__law_do_clash, [], []⟩
def D__law_live : He.DefD := ⟨("_law_live", none), "_law_live", "_law_live", defArgs s__law_live, defBody s__law_live, defScope s__law_live, [], []⟩
def D__law_entries_on : He.DefD := ⟨("_law_entries_on", none), "_law_entries_on", "_law_entries_on", defArgs s__law_entries_on, defBody s__law_entries_on, defScope s__law_entries_on, [], []⟩
def D__law_names : He.DefD := ⟨("_law_names", none), "_law_names", "_law_names", defArgs s__law_names, defBody s__law_names, defScope s__law_names, [], []⟩
def D__law_pattern : He.DefD := ⟨("_law_pattern", none), "_law_pattern", "_law_pattern", defArgs s__law_pattern, defBody s__law_pattern, defScope s__law_pattern, [], []⟩
def D__law_entry : He.DefD := ⟨("_law_entry", none), "_law_entry", "_law_entry", defArgs s__law_entry, defBody s__law_entry, defScope s__law_entry, [], []⟩
def D__law_parts : He.DefD := ⟨("_law_parts", none), "_law_parts", "_law_parts", defArgs s__law_parts, defBody s__law_parts, defScope s__law_parts, [], []⟩
def D__law_library : He.DefD := ⟨("_law_library", none), "_law_library", "_law_library", defArgs s__law_library, defBody s__law_library, defScope s__law_library, [], []⟩
def D__law_drawn_deed : He.DefD := ⟨("_law_drawn_deed", none), "_law_drawn_deed", "_law_drawn_deed", defArgs s__law_drawn_deed, defBody s__law_drawn_deed, defScope s__law_drawn_deed, [], []⟩
def D__law_drawn_records : He.DefD := ⟨("_law_drawn_records", none), "_law_drawn_records", "_law_drawn_records", defArgs s__law_drawn_records, defBody s__law_drawn_records, defScope s__law_drawn_records, [], []⟩
def D__law_like : He.DefD := ⟨("_law_like", none), "_law_like", "_law_like", defArgs s__law_like, defBody s__law_like, defScope s__law_like, [], []⟩
def D__law_is_told : He.DefD := ⟨("_law_is_told", none), "_law_is_told", "_law_is_told", defArgs s__law_is_told, defBody s__law_is_told, defScope s__law_is_told, [], []⟩
def D_law : He.DefD := ⟨("law", none), "law", "law", defArgs s_law, defBody s_law, defScope s_law, [], []⟩
def fn : List He.DefD := [D_put, D_is_unknown, D_resolved, D_differing, D_unified, D_unified_all, D_is_name, D_is_pattern, D_has_hole, D_filled, D_tail_of, D_fitted, D_written, D_pattern_in, D_is_name_token, D_has_parts_of, D_is_entry_name, D_fits_number, D_is_entry, D_is_entry_of, D_do_clash, D_clash_with, D_show_entry, D_show_library, D_entry_in, D_are_ascending_names, D_library_parts, D_read_library, D_are_names, D_check_names, D_check_role, D_check_clashes, D_by_names, D_roles_of, D_is_entry_for, D_is_from_nought, D_is_deed, D_is_record, D_name_of, D_rank_of, D_are_records, D_by_rank, D_live_in, D_entries_behind, D_library_of_day, D_need_records, D_need_day, D_live, D_library_on, D__law_deck, D__law_draw, D__law_pick, D__law_some, D__law_do_meet, D__law_do_clash, D__law_live, D__law_entries_on, D__law_names, D__law_pattern, D__law_entry, D__law_parts, D__law_library, D__law_drawn_deed, D__law_drawn_records, D__law_like, D__law_is_told, D_law]
def fa0 : List He.Fa := [.glo "put", .glo "is_unknown", .glo "resolved", .glo "differing", .glo "unified", .glo "unified_all", .glo "is_name", .glo "is_pattern", .glo "has_hole", .glo "filled", .glo "tail_of", .glo "fitted", .glo "written", .glo "pattern_in", .glo "is_name_token", .glo "has_parts_of", .glo "is_entry_name", .glo "fits_number", .glo "is_entry", .glo "is_entry_of", .glo "do_clash", .glo "clash_with", .glo "show_entry", .glo "show_library", .glo "entry_in", .glo "are_ascending_names", .glo "library_parts", .glo "read_library", .glo "are_names", .glo "check_names"]
def fa1 : List He.Fa := [.glo "check_role", .glo "check_clashes", .glo "by_names", .glo "roles_of", .glo "is_entry_for", .glo "is_from_nought", .glo "is_deed", .glo "is_record", .glo "name_of", .glo "rank_of", .glo "are_records", .glo "by_rank", .glo "live_in", .glo "entries_behind", .glo "library_of_day", .glo "need_records", .glo "need_day", .glo "live", .glo "library_on", .glo "_law_deck", .glo "_law_draw", .glo "_law_pick", .glo "_law_some", .glo "_law_do_meet", .glo "_law_do_clash", .glo "_law_live", .glo "_law_entries_on", .glo "_law_names", .glo "_law_pattern", .glo "_law_entry"]
def fa2 : List He.Fa := [.glo "_law_parts", .glo "_law_library", .glo "_law_drawn_deed", .glo "_law_drawn_records", .glo "_law_like", .glo "_law_is_told", .glo "law", .free "len", .free "all", .free "any", .free "isinstance", .free "tuple", .free "list", .free "int", .free "str", .free "bool", .free "zip", .free "range", .free "enumerate", .free "sorted", .free "set", .free "min", .free "max", .free "repr", .free "dict", .str "TAIL" "T", .str "LETTERS" "abcdefghijklmnopqrstuvwxyz", .int "LONGEST_NAME" 8, .str "HOLE" "T", .str "LEFT" "<"]
def fa3 : List He.Fa := [.str "RIGHT" ">", .str "FUNCTION" "function", .str "METHOD" "method", .str "OPERATOR" "operator", .int "MOST_PARAMETERS" 4, .str "ADD" "add", .str "DROP" "drop", .str "UNDO" "undo", .int "HAND" 0, .int "N" 1, .int "DAY" 2, .int "DEED" 3]
def fa : List He.Fa := fa0 ++ fa1 ++ fa2 ++ fa3
/-- what is looked at besides: tuples of the module, classes -/
def more (K : PySem.W.Frag) : Bool := He.tupB K "WORDS" [.str "let", .str "if", .str "give"] && (He.tupB K "OPERATORS" [.str "+", .str "-", .str "*", .str "/", .str "&", .str "|", .str "^"] && (He.tupB K "SORTS" [.str "function", .str "method", .str "operator"] && (He.tupB K "ROLES" [.str "number", .str "quote", .str "truth"] && (He.eqO (PySem.W.nsIn K mainGlobals "WORDS") (some (some (.ref (He.ga K "WORDS")))) && (He.eqO (PySem.W.nsIn K mainGlobals "OPERATORS") (some (some (.ref (He.ga K "OPERATORS")))) && (He.eqO (PySem.W.nsIn K mainGlobals "SORTS") (some (some (.ref (He.ga K "SORTS")))) && (He.eqO (PySem.W.nsIn K mainGlobals "ROLES") (some (some (.ref (He.ga K "ROLES")))) && (true))))))))
structure Txt (K : PySem.W.Frag) (mg : Str → Option Value) : Prop where
  ex : ∃ h : Heap, K.In h ∧ h.Ns mainGlobals mg
  says : He.SaysD fa fn K
  lk : more K = true
section
variable {K : PySem.W.Frag} {mg : Str → Option Value}
theorem Txt.d_put (T : Txt K mg) : ∃ fd, FunD K "put" "put" (defArgs s_put) (defBody s_put) (defScope s_put) [] [] (He.ga K "put") fd ∧ mg "put" = some (.ref (He.ga K "put")) := by
  obtain ⟨h, X, N⟩ := T.ex
  obtain ⟨fd, F⟩ := T.says.def_ 0 (d := D_put) rfl
  exact ⟨fd, F, He.glo_ok X N (T.says.fact 0 (f := .glo "put") rfl)⟩
theorem Txt.d_is_unknown (T : Txt K mg) : ∃ fd, FunD K "is_unknown" "is_unknown" (defArgs s_is_unknown) (defBody s_is_unknown) (defScope s_is_unknown) [] [] (He.ga K "is_unknown") fd ∧ mg "is_unknown" = some (.ref (He.ga K "is_unknown")) := by
  obtain ⟨h, X, N⟩ := T.ex
  obtain ⟨fd, F⟩ := T.says.def_ 1 (d := D_is_unknown) rfl
  exact ⟨fd, F, He.glo_ok X N (T.says.fact 1 (f := .glo "is_unknown") rfl)⟩
theorem Txt.d_resolved (T : Txt K mg) : ∃ fd, FunD K "resolved" "resolved" (defArgs s_resolved) (defBody s_resolved) (defScope s_resolved) [] [] (He.ga K "resolved") fd ∧ mg "resolved" = some (.ref (He.ga K "resolved")) := by
  obtain ⟨h, X, N⟩ := T.ex
  obtain ⟨fd, F⟩ := T.says.def_ 2 (d := D_resolved) rfl
  exact ⟨fd, F, He.glo_ok X N (T.says.fact 2 (f := .glo "resolved") rfl)⟩
theorem Txt.d_differing (T : Txt K mg) : ∃ fd, FunD K "differing" "differing" (defArgs s_differing) (defBody s_differing) (defScope s_differing) [] [] (He.ga K "differing") fd ∧ mg "differing" = some (.ref (He.ga K "differing")) := by
  obtain ⟨h, X, N⟩ := T.ex
  obtain ⟨fd, F⟩ := T.says.def_ 3 (d := D_differing) rfl
  exact ⟨fd, F, He.glo_ok X N (T.says.fact 3 (f := .glo "differing") rfl)⟩
theorem Txt.d_unified (T : Txt K mg) : ∃ fd, FunD K "unified" "unified" (defArgs s_unified) (defBody s_unified) (defScope s_unified) [] [] (He.ga K "unified") fd ∧ mg "unified" = some (.ref (He.ga K "unified")) := by
  obtain ⟨h, X, N⟩ := T.ex
  obtain ⟨fd, F⟩ := T.says.def_ 4 (d := D_unified) rfl
  exact ⟨fd, F, He.glo_ok X N (T.says.fact 4 (f := .glo "unified") rfl)⟩
theorem Txt.d_unified_all (T : Txt K mg) : ∃ fd, FunD K "unified_all" "unified_all" (defArgs s_unified_all) (defBody s_unified_all) (defScope s_unified_all) [] [] (He.ga K "unified_all") fd ∧ mg "unified_all" = some (.ref (He.ga K "unified_all")) := by
  obtain ⟨h, X, N⟩ := T.ex
  obtain ⟨fd, F⟩ := T.says.def_ 5 (d := D_unified_all) rfl
  exact ⟨fd, F, He.glo_ok X N (T.says.fact 5 (f := .glo "unified_all") rfl)⟩
theorem Txt.d_is_name (T : Txt K mg) : ∃ fd, FunD K "is_name" "is_name" (defArgs s_is_name) (defBody s_is_name) (defScope s_is_name) [] [] (He.ga K "is_name") fd ∧ mg "is_name" = some (.ref (He.ga K "is_name")) := by
  obtain ⟨h, X, N⟩ := T.ex
  obtain ⟨fd, F⟩ := T.says.def_ 6 (d := D_is_name) rfl
  exact ⟨fd, F, He.glo_ok X N (T.says.fact 6 (f := .glo "is_name") rfl)⟩
theorem Txt.d_is_pattern (T : Txt K mg) : ∃ fd, FunD K "is_pattern" "is_pattern" (defArgs s_is_pattern) (defBody s_is_pattern) (defScope s_is_pattern) [] [] (He.ga K "is_pattern") fd ∧ mg "is_pattern" = some (.ref (He.ga K "is_pattern")) := by
  obtain ⟨h, X, N⟩ := T.ex
  obtain ⟨fd, F⟩ := T.says.def_ 7 (d := D_is_pattern) rfl
  exact ⟨fd, F, He.glo_ok X N (T.says.fact 7 (f := .glo "is_pattern") rfl)⟩
theorem Txt.d_has_hole (T : Txt K mg) : ∃ fd, FunD K "has_hole" "has_hole" (defArgs s_has_hole) (defBody s_has_hole) (defScope s_has_hole) [] [] (He.ga K "has_hole") fd ∧ mg "has_hole" = some (.ref (He.ga K "has_hole")) := by
  obtain ⟨h, X, N⟩ := T.ex
  obtain ⟨fd, F⟩ := T.says.def_ 8 (d := D_has_hole) rfl
  exact ⟨fd, F, He.glo_ok X N (T.says.fact 8 (f := .glo "has_hole") rfl)⟩
theorem Txt.d_filled (T : Txt K mg) : ∃ fd, FunD K "filled" "filled" (defArgs s_filled) (defBody s_filled) (defScope s_filled) [] [] (He.ga K "filled") fd ∧ mg "filled" = some (.ref (He.ga K "filled")) := by
  obtain ⟨h, X, N⟩ := T.ex
  obtain ⟨fd, F⟩ := T.says.def_ 9 (d := D_filled) rfl
  exact ⟨fd, F, He.glo_ok X N (T.says.fact 9 (f := .glo "filled") rfl)⟩
theorem Txt.d_tail_of (T : Txt K mg) : ∃ fd, FunD K "tail_of" "tail_of" (defArgs s_tail_of) (defBody s_tail_of) (defScope s_tail_of) [] [] (He.ga K "tail_of") fd ∧ mg "tail_of" = some (.ref (He.ga K "tail_of")) := by
  obtain ⟨h, X, N⟩ := T.ex
  obtain ⟨fd, F⟩ := T.says.def_ 10 (d := D_tail_of) rfl
  exact ⟨fd, F, He.glo_ok X N (T.says.fact 10 (f := .glo "tail_of") rfl)⟩
theorem Txt.d_fitted (T : Txt K mg) : ∃ fd, FunD K "fitted" "fitted" (defArgs s_fitted) (defBody s_fitted) (defScope s_fitted) [] [] (He.ga K "fitted") fd ∧ mg "fitted" = some (.ref (He.ga K "fitted")) := by
  obtain ⟨h, X, N⟩ := T.ex
  obtain ⟨fd, F⟩ := T.says.def_ 11 (d := D_fitted) rfl
  exact ⟨fd, F, He.glo_ok X N (T.says.fact 11 (f := .glo "fitted") rfl)⟩
theorem Txt.d_written (T : Txt K mg) : ∃ fd, FunD K "written" "written" (defArgs s_written) (defBody s_written) (defScope s_written) [] [] (He.ga K "written") fd ∧ mg "written" = some (.ref (He.ga K "written")) := by
  obtain ⟨h, X, N⟩ := T.ex
  obtain ⟨fd, F⟩ := T.says.def_ 12 (d := D_written) rfl
  exact ⟨fd, F, He.glo_ok X N (T.says.fact 12 (f := .glo "written") rfl)⟩
theorem Txt.d_pattern_in (T : Txt K mg) : ∃ fd, FunD K "pattern_in" "pattern_in" (defArgs s_pattern_in) (defBody s_pattern_in) (defScope s_pattern_in) [] [] (He.ga K "pattern_in") fd ∧ mg "pattern_in" = some (.ref (He.ga K "pattern_in")) := by
  obtain ⟨h, X, N⟩ := T.ex
  obtain ⟨fd, F⟩ := T.says.def_ 13 (d := D_pattern_in) rfl
  exact ⟨fd, F, He.glo_ok X N (T.says.fact 13 (f := .glo "pattern_in") rfl)⟩
theorem Txt.d_is_name_token (T : Txt K mg) : ∃ fd, FunD K "is_name_token" "is_name_token" (defArgs s_is_name_token) (defBody s_is_name_token) (defScope s_is_name_token) [] [] (He.ga K "is_name_token") fd ∧ mg "is_name_token" = some (.ref (He.ga K "is_name_token")) := by
  obtain ⟨h, X, N⟩ := T.ex
  obtain ⟨fd, F⟩ := T.says.def_ 14 (d := D_is_name_token) rfl
  exact ⟨fd, F, He.glo_ok X N (T.says.fact 14 (f := .glo "is_name_token") rfl)⟩
theorem Txt.d_has_parts_of (T : Txt K mg) : ∃ fd, FunD K "has_parts_of" "has_parts_of" (defArgs s_has_parts_of) (defBody s_has_parts_of) (defScope s_has_parts_of) [] [] (He.ga K "has_parts_of") fd ∧ mg "has_parts_of" = some (.ref (He.ga K "has_parts_of")) := by
  obtain ⟨h, X, N⟩ := T.ex
  obtain ⟨fd, F⟩ := T.says.def_ 15 (d := D_has_parts_of) rfl
  exact ⟨fd, F, He.glo_ok X N (T.says.fact 15 (f := .glo "has_parts_of") rfl)⟩
theorem Txt.d_is_entry_name (T : Txt K mg) : ∃ fd, FunD K "is_entry_name" "is_entry_name" (defArgs s_is_entry_name) (defBody s_is_entry_name) (defScope s_is_entry_name) [] [] (He.ga K "is_entry_name") fd ∧ mg "is_entry_name" = some (.ref (He.ga K "is_entry_name")) := by
  obtain ⟨h, X, N⟩ := T.ex
  obtain ⟨fd, F⟩ := T.says.def_ 16 (d := D_is_entry_name) rfl
  exact ⟨fd, F, He.glo_ok X N (T.says.fact 16 (f := .glo "is_entry_name") rfl)⟩
theorem Txt.d_fits_number (T : Txt K mg) : ∃ fd, FunD K "fits_number" "fits_number" (defArgs s_fits_number) (defBody s_fits_number) (defScope s_fits_number) [] [] (He.ga K "fits_number") fd ∧ mg "fits_number" = some (.ref (He.ga K "fits_number")) := by
  obtain ⟨h, X, N⟩ := T.ex
  obtain ⟨fd, F⟩ := T.says.def_ 17 (d := D_fits_number) rfl
  exact ⟨fd, F, He.glo_ok X N (T.says.fact 17 (f := .glo "fits_number") rfl)⟩
theorem Txt.d_is_entry (T : Txt K mg) : ∃ fd, FunD K "is_entry" "is_entry" (defArgs s_is_entry) (defBody s_is_entry) (defScope s_is_entry) [] [] (He.ga K "is_entry") fd ∧ mg "is_entry" = some (.ref (He.ga K "is_entry")) := by
  obtain ⟨h, X, N⟩ := T.ex
  obtain ⟨fd, F⟩ := T.says.def_ 18 (d := D_is_entry) rfl
  exact ⟨fd, F, He.glo_ok X N (T.says.fact 18 (f := .glo "is_entry") rfl)⟩
theorem Txt.d_is_entry_of (T : Txt K mg) : ∃ fd, FunD K "is_entry_of" "is_entry_of" (defArgs s_is_entry_of) (defBody s_is_entry_of) (defScope s_is_entry_of) [] [] (He.ga K "is_entry_of") fd ∧ mg "is_entry_of" = some (.ref (He.ga K "is_entry_of")) := by
  obtain ⟨h, X, N⟩ := T.ex
  obtain ⟨fd, F⟩ := T.says.def_ 19 (d := D_is_entry_of) rfl
  exact ⟨fd, F, He.glo_ok X N (T.says.fact 19 (f := .glo "is_entry_of") rfl)⟩
theorem Txt.d_do_clash (T : Txt K mg) : ∃ fd, FunD K "do_clash" "do_clash" (defArgs s_do_clash) (defBody s_do_clash) (defScope s_do_clash) [] [] (He.ga K "do_clash") fd ∧ mg "do_clash" = some (.ref (He.ga K "do_clash")) := by
  obtain ⟨h, X, N⟩ := T.ex
  obtain ⟨fd, F⟩ := T.says.def_ 20 (d := D_do_clash) rfl
  exact ⟨fd, F, He.glo_ok X N (T.says.fact 20 (f := .glo "do_clash") rfl)⟩
theorem Txt.d_clash_with (T : Txt K mg) : ∃ fd, FunD K "clash_with" "clash_with" (defArgs s_clash_with) (defBody s_clash_with) (defScope s_clash_with) [] [] (He.ga K "clash_with") fd ∧ mg "clash_with" = some (.ref (He.ga K "clash_with")) := by
  obtain ⟨h, X, N⟩ := T.ex
  obtain ⟨fd, F⟩ := T.says.def_ 21 (d := D_clash_with) rfl
  exact ⟨fd, F, He.glo_ok X N (T.says.fact 21 (f := .glo "clash_with") rfl)⟩
theorem Txt.d_show_entry (T : Txt K mg) : ∃ fd, FunD K "show_entry" "show_entry" (defArgs s_show_entry) (defBody s_show_entry) (defScope s_show_entry) [] [] (He.ga K "show_entry") fd ∧ mg "show_entry" = some (.ref (He.ga K "show_entry")) := by
  obtain ⟨h, X, N⟩ := T.ex
  obtain ⟨fd, F⟩ := T.says.def_ 22 (d := D_show_entry) rfl
  exact ⟨fd, F, He.glo_ok X N (T.says.fact 22 (f := .glo "show_entry") rfl)⟩
theorem Txt.d_show_library (T : Txt K mg) : ∃ fd, FunD K "show_library" "show_library" (defArgs s_show_library) (defBody s_show_library) (defScope s_show_library) [] [] (He.ga K "show_library") fd ∧ mg "show_library" = some (.ref (He.ga K "show_library")) := by
  obtain ⟨h, X, N⟩ := T.ex
  obtain ⟨fd, F⟩ := T.says.def_ 23 (d := D_show_library) rfl
  exact ⟨fd, F, He.glo_ok X N (T.says.fact 23 (f := .glo "show_library") rfl)⟩
theorem Txt.d_entry_in (T : Txt K mg) : ∃ fd, FunD K "entry_in" "entry_in" (defArgs s_entry_in) (defBody s_entry_in) (defScope s_entry_in) [] [] (He.ga K "entry_in") fd ∧ mg "entry_in" = some (.ref (He.ga K "entry_in")) := by
  obtain ⟨h, X, N⟩ := T.ex
  obtain ⟨fd, F⟩ := T.says.def_ 24 (d := D_entry_in) rfl
  exact ⟨fd, F, He.glo_ok X N (T.says.fact 24 (f := .glo "entry_in") rfl)⟩
theorem Txt.d_are_ascending_names (T : Txt K mg) : ∃ fd, FunD K "are_ascending_names" "are_ascending_names" (defArgs s_are_ascending_names) (defBody s_are_ascending_names) (defScope s_are_ascending_names) [] [] (He.ga K "are_ascending_names") fd ∧ mg "are_ascending_names" = some (.ref (He.ga K "are_ascending_names")) := by
  obtain ⟨h, X, N⟩ := T.ex
  obtain ⟨fd, F⟩ := T.says.def_ 25 (d := D_are_ascending_names) rfl
  exact ⟨fd, F, He.glo_ok X N (T.says.fact 25 (f := .glo "are_ascending_names") rfl)⟩
theorem Txt.d_library_parts (T : Txt K mg) : ∃ fd, FunD K "library_parts" "library_parts" (defArgs s_library_parts) (defBody s_library_parts) (defScope s_library_parts) [] [] (He.ga K "library_parts") fd ∧ mg "library_parts" = some (.ref (He.ga K "library_parts")) := by
  obtain ⟨h, X, N⟩ := T.ex
  obtain ⟨fd, F⟩ := T.says.def_ 26 (d := D_library_parts) rfl
  exact ⟨fd, F, He.glo_ok X N (T.says.fact 26 (f := .glo "library_parts") rfl)⟩
theorem Txt.d_read_library (T : Txt K mg) : ∃ fd, FunD K "read_library" "read_library" (defArgs s_read_library) (defBody s_read_library) (defScope s_read_library) [] [] (He.ga K "read_library") fd ∧ mg "read_library" = some (.ref (He.ga K "read_library")) := by
  obtain ⟨h, X, N⟩ := T.ex
  obtain ⟨fd, F⟩ := T.says.def_ 27 (d := D_read_library) rfl
  exact ⟨fd, F, He.glo_ok X N (T.says.fact 27 (f := .glo "read_library") rfl)⟩
theorem Txt.d_are_names (T : Txt K mg) : ∃ fd, FunD K "are_names" "are_names" (defArgs s_are_names) (defBody s_are_names) (defScope s_are_names) [] [] (He.ga K "are_names") fd ∧ mg "are_names" = some (.ref (He.ga K "are_names")) := by
  obtain ⟨h, X, N⟩ := T.ex
  obtain ⟨fd, F⟩ := T.says.def_ 28 (d := D_are_names) rfl
  exact ⟨fd, F, He.glo_ok X N (T.says.fact 28 (f := .glo "are_names") rfl)⟩
theorem Txt.d_check_names (T : Txt K mg) : ∃ fd, FunD K "check_names" "check_names" (defArgs s_check_names) (defBody s_check_names) (defScope s_check_names) [] [] (He.ga K "check_names") fd ∧ mg "check_names" = some (.ref (He.ga K "check_names")) := by
  obtain ⟨h, X, N⟩ := T.ex
  obtain ⟨fd, F⟩ := T.says.def_ 29 (d := D_check_names) rfl
  exact ⟨fd, F, He.glo_ok X N (T.says.fact 29 (f := .glo "check_names") rfl)⟩
theorem Txt.d_check_role (T : Txt K mg) : ∃ fd, FunD K "check_role" "check_role" (defArgs s_check_role) (defBody s_check_role) (defScope s_check_role) [] [] (He.ga K "check_role") fd ∧ mg "check_role" = some (.ref (He.ga K "check_role")) := by
  obtain ⟨h, X, N⟩ := T.ex
  obtain ⟨fd, F⟩ := T.says.def_ 30 (d := D_check_role) rfl
  exact ⟨fd, F, He.glo_ok X N (T.says.fact 30 (f := .glo "check_role") rfl)⟩
theorem Txt.d_check_clashes (T : Txt K mg) : ∃ fd, FunD K "check_clashes" "check_clashes" (defArgs s_check_clashes) (defBody s_check_clashes) (defScope s_check_clashes) [] [] (He.ga K "check_clashes") fd ∧ mg "check_clashes" = some (.ref (He.ga K "check_clashes")) := by
  obtain ⟨h, X, N⟩ := T.ex
  obtain ⟨fd, F⟩ := T.says.def_ 31 (d := D_check_clashes) rfl
  exact ⟨fd, F, He.glo_ok X N (T.says.fact 31 (f := .glo "check_clashes") rfl)⟩
theorem Txt.d_by_names (T : Txt K mg) : ∃ fd, FunD K "by_names" "by_names" (defArgs s_by_names) (defBody s_by_names) (defScope s_by_names) [] [] (He.ga K "by_names") fd ∧ mg "by_names" = some (.ref (He.ga K "by_names")) := by
  obtain ⟨h, X, N⟩ := T.ex
  obtain ⟨fd, F⟩ := T.says.def_ 32 (d := D_by_names) rfl
  exact ⟨fd, F, He.glo_ok X N (T.says.fact 32 (f := .glo "by_names") rfl)⟩
theorem Txt.d_roles_of (T : Txt K mg) : ∃ fd, FunD K "roles_of" "roles_of" (defArgs s_roles_of) (defBody s_roles_of) (defScope s_roles_of) [] [] (He.ga K "roles_of") fd ∧ mg "roles_of" = some (.ref (He.ga K "roles_of")) := by
  obtain ⟨h, X, N⟩ := T.ex
  obtain ⟨fd, F⟩ := T.says.def_ 33 (d := D_roles_of) rfl
  exact ⟨fd, F, He.glo_ok X N (T.says.fact 33 (f := .glo "roles_of") rfl)⟩
theorem Txt.d_is_entry_for (T : Txt K mg) : ∃ fd, FunD K "is_entry_for" "is_entry_for" (defArgs s_is_entry_for) (defBody s_is_entry_for) (defScope s_is_entry_for) [] [] (He.ga K "is_entry_for") fd ∧ mg "is_entry_for" = some (.ref (He.ga K "is_entry_for")) := by
  obtain ⟨h, X, N⟩ := T.ex
  obtain ⟨fd, F⟩ := T.says.def_ 34 (d := D_is_entry_for) rfl
  exact ⟨fd, F, He.glo_ok X N (T.says.fact 34 (f := .glo "is_entry_for") rfl)⟩
theorem Txt.d_is_from_nought (T : Txt K mg) : ∃ fd, FunD K "is_from_nought" "is_from_nought" (defArgs s_is_from_nought) (defBody s_is_from_nought) (defScope s_is_from_nought) [] [] (He.ga K "is_from_nought") fd ∧ mg "is_from_nought" = some (.ref (He.ga K "is_from_nought")) := by
  obtain ⟨h, X, N⟩ := T.ex
  obtain ⟨fd, F⟩ := T.says.def_ 35 (d := D_is_from_nought) rfl
  exact ⟨fd, F, He.glo_ok X N (T.says.fact 35 (f := .glo "is_from_nought") rfl)⟩
theorem Txt.d_is_deed (T : Txt K mg) : ∃ fd, FunD K "is_deed" "is_deed" (defArgs s_is_deed) (defBody s_is_deed) (defScope s_is_deed) [] [] (He.ga K "is_deed") fd ∧ mg "is_deed" = some (.ref (He.ga K "is_deed")) := by
  obtain ⟨h, X, N⟩ := T.ex
  obtain ⟨fd, F⟩ := T.says.def_ 36 (d := D_is_deed) rfl
  exact ⟨fd, F, He.glo_ok X N (T.says.fact 36 (f := .glo "is_deed") rfl)⟩
theorem Txt.d_is_record (T : Txt K mg) : ∃ fd, FunD K "is_record" "is_record" (defArgs s_is_record) (defBody s_is_record) (defScope s_is_record) [] [] (He.ga K "is_record") fd ∧ mg "is_record" = some (.ref (He.ga K "is_record")) := by
  obtain ⟨h, X, N⟩ := T.ex
  obtain ⟨fd, F⟩ := T.says.def_ 37 (d := D_is_record) rfl
  exact ⟨fd, F, He.glo_ok X N (T.says.fact 37 (f := .glo "is_record") rfl)⟩
theorem Txt.d_name_of (T : Txt K mg) : ∃ fd, FunD K "name_of" "name_of" (defArgs s_name_of) (defBody s_name_of) (defScope s_name_of) [] [] (He.ga K "name_of") fd ∧ mg "name_of" = some (.ref (He.ga K "name_of")) := by
  obtain ⟨h, X, N⟩ := T.ex
  obtain ⟨fd, F⟩ := T.says.def_ 38 (d := D_name_of) rfl
  exact ⟨fd, F, He.glo_ok X N (T.says.fact 38 (f := .glo "name_of") rfl)⟩
theorem Txt.d_rank_of (T : Txt K mg) : ∃ fd, FunD K "rank_of" "rank_of" (defArgs s_rank_of) (defBody s_rank_of) (defScope s_rank_of) [] [] (He.ga K "rank_of") fd ∧ mg "rank_of" = some (.ref (He.ga K "rank_of")) := by
  obtain ⟨h, X, N⟩ := T.ex
  obtain ⟨fd, F⟩ := T.says.def_ 39 (d := D_rank_of) rfl
  exact ⟨fd, F, He.glo_ok X N (T.says.fact 39 (f := .glo "rank_of") rfl)⟩
theorem Txt.d_are_records (T : Txt K mg) : ∃ fd, FunD K "are_records" "are_records" (defArgs s_are_records) (defBody s_are_records) (defScope s_are_records) [] [] (He.ga K "are_records") fd ∧ mg "are_records" = some (.ref (He.ga K "are_records")) := by
  obtain ⟨h, X, N⟩ := T.ex
  obtain ⟨fd, F⟩ := T.says.def_ 40 (d := D_are_records) rfl
  exact ⟨fd, F, He.glo_ok X N (T.says.fact 40 (f := .glo "are_records") rfl)⟩
theorem Txt.d_by_rank (T : Txt K mg) : ∃ fd, FunD K "by_rank" "by_rank" (defArgs s_by_rank) (defBody s_by_rank) (defScope s_by_rank) [] [] (He.ga K "by_rank") fd ∧ mg "by_rank" = some (.ref (He.ga K "by_rank")) := by
  obtain ⟨h, X, N⟩ := T.ex
  obtain ⟨fd, F⟩ := T.says.def_ 41 (d := D_by_rank) rfl
  exact ⟨fd, F, He.glo_ok X N (T.says.fact 41 (f := .glo "by_rank") rfl)⟩
theorem Txt.d_live_in (T : Txt K mg) : ∃ fd, FunD K "live_in" "live_in" (defArgs s_live_in) (defBody s_live_in) (defScope s_live_in) [] [] (He.ga K "live_in") fd ∧ mg "live_in" = some (.ref (He.ga K "live_in")) := by
  obtain ⟨h, X, N⟩ := T.ex
  obtain ⟨fd, F⟩ := T.says.def_ 42 (d := D_live_in) rfl
  exact ⟨fd, F, He.glo_ok X N (T.says.fact 42 (f := .glo "live_in") rfl)⟩
theorem Txt.d_entries_behind (T : Txt K mg) : ∃ fd, FunD K "entries_behind" "entries_behind" (defArgs s_entries_behind) (defBody s_entries_behind) (defScope s_entries_behind) [] [] (He.ga K "entries_behind") fd ∧ mg "entries_behind" = some (.ref (He.ga K "entries_behind")) := by
  obtain ⟨h, X, N⟩ := T.ex
  obtain ⟨fd, F⟩ := T.says.def_ 43 (d := D_entries_behind) rfl
  exact ⟨fd, F, He.glo_ok X N (T.says.fact 43 (f := .glo "entries_behind") rfl)⟩
theorem Txt.d_library_of_day (T : Txt K mg) : ∃ fd, FunD K "library_of_day" "library_of_day" (defArgs s_library_of_day) (defBody s_library_of_day) (defScope s_library_of_day) [] [] (He.ga K "library_of_day") fd ∧ mg "library_of_day" = some (.ref (He.ga K "library_of_day")) := by
  obtain ⟨h, X, N⟩ := T.ex
  obtain ⟨fd, F⟩ := T.says.def_ 44 (d := D_library_of_day) rfl
  exact ⟨fd, F, He.glo_ok X N (T.says.fact 44 (f := .glo "library_of_day") rfl)⟩
theorem Txt.d_need_records (T : Txt K mg) : ∃ fd, FunD K "need_records" "need_records" (defArgs s_need_records) (defBody s_need_records) (defScope s_need_records) [] [] (He.ga K "need_records") fd ∧ mg "need_records" = some (.ref (He.ga K "need_records")) := by
  obtain ⟨h, X, N⟩ := T.ex
  obtain ⟨fd, F⟩ := T.says.def_ 45 (d := D_need_records) rfl
  exact ⟨fd, F, He.glo_ok X N (T.says.fact 45 (f := .glo "need_records") rfl)⟩
theorem Txt.d_need_day (T : Txt K mg) : ∃ fd, FunD K "need_day" "need_day" (defArgs s_need_day) (defBody s_need_day) (defScope s_need_day) [] [] (He.ga K "need_day") fd ∧ mg "need_day" = some (.ref (He.ga K "need_day")) := by
  obtain ⟨h, X, N⟩ := T.ex
  obtain ⟨fd, F⟩ := T.says.def_ 46 (d := D_need_day) rfl
  exact ⟨fd, F, He.glo_ok X N (T.says.fact 46 (f := .glo "need_day") rfl)⟩
theorem Txt.d_live (T : Txt K mg) : ∃ fd, FunD K "live" "live" (defArgs s_live) (defBody s_live) (defScope s_live) [] [] (He.ga K "live") fd ∧ mg "live" = some (.ref (He.ga K "live")) := by
  obtain ⟨h, X, N⟩ := T.ex
  obtain ⟨fd, F⟩ := T.says.def_ 47 (d := D_live) rfl
  exact ⟨fd, F, He.glo_ok X N (T.says.fact 47 (f := .glo "live") rfl)⟩
theorem Txt.d_library_on (T : Txt K mg) : ∃ fd, FunD K "library_on" "library_on" (defArgs s_library_on) (defBody s_library_on) (defScope s_library_on) [] [] (He.ga K "library_on") fd ∧ mg "library_on" = some (.ref (He.ga K "library_on")) := by
  obtain ⟨h, X, N⟩ := T.ex
  obtain ⟨fd, F⟩ := T.says.def_ 48 (d := D_library_on) rfl
  exact ⟨fd, F, He.glo_ok X N (T.says.fact 48 (f := .glo "library_on") rfl)⟩
theorem Txt.d__law_deck (T : Txt K mg) : ∃ fd, FunD K "_law_deck" "_law_deck" (defArgs s__law_deck) (defBody s__law_deck) (defScope s__law_deck) [] [] (He.ga K "_law_deck") fd ∧ mg "_law_deck" = some (.ref (He.ga K "_law_deck")) := by
  obtain ⟨h, X, N⟩ := T.ex
  obtain ⟨fd, F⟩ := T.says.def_ 49 (d := D__law_deck) rfl
  exact ⟨fd, F, He.glo_ok X N (T.says.fact 49 (f := .glo "_law_deck") rfl)⟩
theorem Txt.d__law_draw (T : Txt K mg) : ∃ fd, FunD K "_law_draw" "_law_draw" (defArgs s__law_draw) (defBody s__law_draw) (defScope s__law_draw) [] [] (He.ga K "_law_draw") fd ∧ mg "_law_draw" = some (.ref (He.ga K "_law_draw")) := by
  obtain ⟨h, X, N⟩ := T.ex
  obtain ⟨fd, F⟩ := T.says.def_ 50 (d := D__law_draw) rfl
  exact ⟨fd, F, He.glo_ok X N (T.says.fact 50 (f := .glo "_law_draw") rfl)⟩
theorem Txt.d__law_pick (T : Txt K mg) : ∃ fd, FunD K "_law_pick" "_law_pick" (defArgs s__law_pick) (defBody s__law_pick) (defScope s__law_pick) [] [] (He.ga K "_law_pick") fd ∧ mg "_law_pick" = some (.ref (He.ga K "_law_pick")) := by
  obtain ⟨h, X, N⟩ := T.ex
  obtain ⟨fd, F⟩ := T.says.def_ 51 (d := D__law_pick) rfl
  exact ⟨fd, F, He.glo_ok X N (T.says.fact 51 (f := .glo "_law_pick") rfl)⟩
theorem Txt.d__law_some (T : Txt K mg) : ∃ fd, FunD K "_law_some" "_law_some" (defArgs s__law_some) (defBody s__law_some) (defScope s__law_some) [] [] (He.ga K "_law_some") fd ∧ mg "_law_some" = some (.ref (He.ga K "_law_some")) := by
  obtain ⟨h, X, N⟩ := T.ex
  obtain ⟨fd, F⟩ := T.says.def_ 52 (d := D__law_some) rfl
  exact ⟨fd, F, He.glo_ok X N (T.says.fact 52 (f := .glo "_law_some") rfl)⟩
theorem Txt.d__law_do_meet (T : Txt K mg) : ∃ fd, FunD K "_law_do_meet" "_law_do_meet" (defArgs s__law_do_meet) (defBody s__law_do_meet) (defScope s__law_do_meet) [] [] (He.ga K "_law_do_meet") fd ∧ mg "_law_do_meet" = some (.ref (He.ga K "_law_do_meet")) := by
  obtain ⟨h, X, N⟩ := T.ex
  obtain ⟨fd, F⟩ := T.says.def_ 53 (d := D__law_do_meet) rfl
  exact ⟨fd, F, He.glo_ok X N (T.says.fact 53 (f := .glo "_law_do_meet") rfl)⟩
theorem Txt.d__law_do_clash (T : Txt K mg) : ∃ fd, FunD K "_law_do_clash" "_law_do_clash" (defArgs s__law_do_clash) (defBody s__law_do_clash) (defScope s__law_do_clash) [] [] (He.ga K "_law_do_clash") fd ∧ mg "_law_do_clash" = some (.ref (He.ga K "_law_do_clash")) := by
  obtain ⟨h, X, N⟩ := T.ex
  obtain ⟨fd, F⟩ := T.says.def_ 54 (d := D__law_do_clash) rfl
  exact ⟨fd, F, He.glo_ok X N (T.says.fact 54 (f := .glo "_law_do_clash") rfl)⟩
theorem Txt.d__law_live (T : Txt K mg) : ∃ fd, FunD K "_law_live" "_law_live" (defArgs s__law_live) (defBody s__law_live) (defScope s__law_live) [] [] (He.ga K "_law_live") fd ∧ mg "_law_live" = some (.ref (He.ga K "_law_live")) := by
  obtain ⟨h, X, N⟩ := T.ex
  obtain ⟨fd, F⟩ := T.says.def_ 55 (d := D__law_live) rfl
  exact ⟨fd, F, He.glo_ok X N (T.says.fact 55 (f := .glo "_law_live") rfl)⟩
theorem Txt.d__law_entries_on (T : Txt K mg) : ∃ fd, FunD K "_law_entries_on" "_law_entries_on" (defArgs s__law_entries_on) (defBody s__law_entries_on) (defScope s__law_entries_on) [] [] (He.ga K "_law_entries_on") fd ∧ mg "_law_entries_on" = some (.ref (He.ga K "_law_entries_on")) := by
  obtain ⟨h, X, N⟩ := T.ex
  obtain ⟨fd, F⟩ := T.says.def_ 56 (d := D__law_entries_on) rfl
  exact ⟨fd, F, He.glo_ok X N (T.says.fact 56 (f := .glo "_law_entries_on") rfl)⟩
theorem Txt.d__law_names (T : Txt K mg) : ∃ fd, FunD K "_law_names" "_law_names" (defArgs s__law_names) (defBody s__law_names) (defScope s__law_names) [] [] (He.ga K "_law_names") fd ∧ mg "_law_names" = some (.ref (He.ga K "_law_names")) := by
  obtain ⟨h, X, N⟩ := T.ex
  obtain ⟨fd, F⟩ := T.says.def_ 57 (d := D__law_names) rfl
  exact ⟨fd, F, He.glo_ok X N (T.says.fact 57 (f := .glo "_law_names") rfl)⟩
theorem Txt.d__law_pattern (T : Txt K mg) : ∃ fd, FunD K "_law_pattern" "_law_pattern" (defArgs s__law_pattern) (defBody s__law_pattern) (defScope s__law_pattern) [] [] (He.ga K "_law_pattern") fd ∧ mg "_law_pattern" = some (.ref (He.ga K "_law_pattern")) := by
  obtain ⟨h, X, N⟩ := T.ex
  obtain ⟨fd, F⟩ := T.says.def_ 58 (d := D__law_pattern) rfl
  exact ⟨fd, F, He.glo_ok X N (T.says.fact 58 (f := .glo "_law_pattern") rfl)⟩
theorem Txt.d__law_entry (T : Txt K mg) : ∃ fd, FunD K "_law_entry" "_law_entry" (defArgs s__law_entry) (defBody s__law_entry) (defScope s__law_entry) [] [] (He.ga K "_law_entry") fd ∧ mg "_law_entry" = some (.ref (He.ga K "_law_entry")) := by
  obtain ⟨h, X, N⟩ := T.ex
  obtain ⟨fd, F⟩ := T.says.def_ 59 (d := D__law_entry) rfl
  exact ⟨fd, F, He.glo_ok X N (T.says.fact 59 (f := .glo "_law_entry") rfl)⟩
theorem Txt.d__law_parts (T : Txt K mg) : ∃ fd, FunD K "_law_parts" "_law_parts" (defArgs s__law_parts) (defBody s__law_parts) (defScope s__law_parts) [] [] (He.ga K "_law_parts") fd ∧ mg "_law_parts" = some (.ref (He.ga K "_law_parts")) := by
  obtain ⟨h, X, N⟩ := T.ex
  obtain ⟨fd, F⟩ := T.says.def_ 60 (d := D__law_parts) rfl
  exact ⟨fd, F, He.glo_ok X N (T.says.fact 60 (f := .glo "_law_parts") rfl)⟩
theorem Txt.d__law_library (T : Txt K mg) : ∃ fd, FunD K "_law_library" "_law_library" (defArgs s__law_library) (defBody s__law_library) (defScope s__law_library) [] [] (He.ga K "_law_library") fd ∧ mg "_law_library" = some (.ref (He.ga K "_law_library")) := by
  obtain ⟨h, X, N⟩ := T.ex
  obtain ⟨fd, F⟩ := T.says.def_ 61 (d := D__law_library) rfl
  exact ⟨fd, F, He.glo_ok X N (T.says.fact 61 (f := .glo "_law_library") rfl)⟩
theorem Txt.d__law_drawn_deed (T : Txt K mg) : ∃ fd, FunD K "_law_drawn_deed" "_law_drawn_deed" (defArgs s__law_drawn_deed) (defBody s__law_drawn_deed) (defScope s__law_drawn_deed) [] [] (He.ga K "_law_drawn_deed") fd ∧ mg "_law_drawn_deed" = some (.ref (He.ga K "_law_drawn_deed")) := by
  obtain ⟨h, X, N⟩ := T.ex
  obtain ⟨fd, F⟩ := T.says.def_ 62 (d := D__law_drawn_deed) rfl
  exact ⟨fd, F, He.glo_ok X N (T.says.fact 62 (f := .glo "_law_drawn_deed") rfl)⟩
theorem Txt.d__law_drawn_records (T : Txt K mg) : ∃ fd, FunD K "_law_drawn_records" "_law_drawn_records" (defArgs s__law_drawn_records) (defBody s__law_drawn_records) (defScope s__law_drawn_records) [] [] (He.ga K "_law_drawn_records") fd ∧ mg "_law_drawn_records" = some (.ref (He.ga K "_law_drawn_records")) := by
  obtain ⟨h, X, N⟩ := T.ex
  obtain ⟨fd, F⟩ := T.says.def_ 63 (d := D__law_drawn_records) rfl
  exact ⟨fd, F, He.glo_ok X N (T.says.fact 63 (f := .glo "_law_drawn_records") rfl)⟩
theorem Txt.d__law_like (T : Txt K mg) : ∃ fd, FunD K "_law_like" "_law_like" (defArgs s__law_like) (defBody s__law_like) (defScope s__law_like) [] [] (He.ga K "_law_like") fd ∧ mg "_law_like" = some (.ref (He.ga K "_law_like")) := by
  obtain ⟨h, X, N⟩ := T.ex
  obtain ⟨fd, F⟩ := T.says.def_ 64 (d := D__law_like) rfl
  exact ⟨fd, F, He.glo_ok X N (T.says.fact 64 (f := .glo "_law_like") rfl)⟩
theorem Txt.d__law_is_told (T : Txt K mg) : ∃ fd, FunD K "_law_is_told" "_law_is_told" (defArgs s__law_is_told) (defBody s__law_is_told) (defScope s__law_is_told) [] [] (He.ga K "_law_is_told") fd ∧ mg "_law_is_told" = some (.ref (He.ga K "_law_is_told")) := by
  obtain ⟨h, X, N⟩ := T.ex
  obtain ⟨fd, F⟩ := T.says.def_ 65 (d := D__law_is_told) rfl
  exact ⟨fd, F, He.glo_ok X N (T.says.fact 65 (f := .glo "_law_is_told") rfl)⟩
theorem Txt.d_law (T : Txt K mg) : ∃ fd, FunD K "law" "law" (defArgs s_law) (defBody s_law) (defScope s_law) [] [] (He.ga K "law") fd ∧ mg "law" = some (.ref (He.ga K "law")) := by
  obtain ⟨h, X, N⟩ := T.ex
  obtain ⟨fd, F⟩ := T.says.def_ 66 (d := D_law) rfl
  exact ⟨fd, F, He.glo_ok X N (T.says.fact 66 (f := .glo "law") rfl)⟩
theorem Txt.free_len (T : Txt K mg) : mg "len" = none := by
  obtain ⟨h, X, N⟩ := T.ex
  exact He.free_ok X N (T.says.fact 67 (f := .free "len") rfl)
theorem Txt.free_all (T : Txt K mg) : mg "all" = none := by
  obtain ⟨h, X, N⟩ := T.ex
  exact He.free_ok X N (T.says.fact 68 (f := .free "all") rfl)
theorem Txt.free_any (T : Txt K mg) : mg "any" = none := by
  obtain ⟨h, X, N⟩ := T.ex
  exact He.free_ok X N (T.says.fact 69 (f := .free "any") rfl)
theorem Txt.free_isinstance (T : Txt K mg) : mg "isinstance" = none := by
  obtain ⟨h, X, N⟩ := T.ex
  exact He.free_ok X N (T.says.fact 70 (f := .free "isinstance") rfl)
theorem Txt.free_tuple (T : Txt K mg) : mg "tuple" = none := by
  obtain ⟨h, X, N⟩ := T.ex
  exact He.free_ok X N (T.says.fact 71 (f := .free "tuple") rfl)
theorem Txt.free_list (T : Txt K mg) : mg "list" = none := by
  obtain ⟨h, X, N⟩ := T.ex
  exact He.free_ok X N (T.says.fact 72 (f := .free "list") rfl)
theorem Txt.free_int (T : Txt K mg) : mg "int" = none := by
  obtain ⟨h, X, N⟩ := T.ex
  exact He.free_ok X N (T.says.fact 73 (f := .free "int") rfl)
theorem Txt.free_str (T : Txt K mg) : mg "str" = none := by
  obtain ⟨h, X, N⟩ := T.ex
  exact He.free_ok X N (T.says.fact 74 (f := .free "str") rfl)
theorem Txt.free_bool (T : Txt K mg) : mg "bool" = none := by
  obtain ⟨h, X, N⟩ := T.ex
  exact He.free_ok X N (T.says.fact 75 (f := .free "bool") rfl)
theorem Txt.free_zip (T : Txt K mg) : mg "zip" = none := by
  obtain ⟨h, X, N⟩ := T.ex
  exact He.free_ok X N (T.says.fact 76 (f := .free "zip") rfl)
theorem Txt.free_range (T : Txt K mg) : mg "range" = none := by
  obtain ⟨h, X, N⟩ := T.ex
  exact He.free_ok X N (T.says.fact 77 (f := .free "range") rfl)
theorem Txt.free_enumerate (T : Txt K mg) : mg "enumerate" = none := by
  obtain ⟨h, X, N⟩ := T.ex
  exact He.free_ok X N (T.says.fact 78 (f := .free "enumerate") rfl)
theorem Txt.free_sorted (T : Txt K mg) : mg "sorted" = none := by
  obtain ⟨h, X, N⟩ := T.ex
  exact He.free_ok X N (T.says.fact 79 (f := .free "sorted") rfl)
theorem Txt.free_set (T : Txt K mg) : mg "set" = none := by
  obtain ⟨h, X, N⟩ := T.ex
  exact He.free_ok X N (T.says.fact 80 (f := .free "set") rfl)
theorem Txt.free_min (T : Txt K mg) : mg "min" = none := by
  obtain ⟨h, X, N⟩ := T.ex
  exact He.free_ok X N (T.says.fact 81 (f := .free "min") rfl)
theorem Txt.free_max (T : Txt K mg) : mg "max" = none := by
  obtain ⟨h, X, N⟩ := T.ex
  exact He.free_ok X N (T.says.fact 82 (f := .free "max") rfl)
theorem Txt.free_repr (T : Txt K mg) : mg "repr" = none := by
  obtain ⟨h, X, N⟩ := T.ex
  exact He.free_ok X N (T.says.fact 83 (f := .free "repr") rfl)
theorem Txt.free_dict (T : Txt K mg) : mg "dict" = none := by
  obtain ⟨h, X, N⟩ := T.ex
  exact He.free_ok X N (T.says.fact 84 (f := .free "dict") rfl)
theorem Txt.c_TAIL (T : Txt K mg) : Cst mg "TAIL" (.str "T") := by
  obtain ⟨h, X, N⟩ := T.ex
  obtain ⟨t, e⟩ := He.str_ok X N (T.says.fact 85 (f := .str "TAIL" "T") rfl)
  exact ⟨_, e, t, rfl⟩
theorem Txt.c_LETTERS (T : Txt K mg) : Cst mg "LETTERS" (.str "abcdefghijklmnopqrstuvwxyz") := by
  obtain ⟨h, X, N⟩ := T.ex
  obtain ⟨t, e⟩ := He.str_ok X N (T.says.fact 86 (f := .str "LETTERS" "abcdefghijklmnopqrstuvwxyz") rfl)
  exact ⟨_, e, t, rfl⟩
theorem Txt.c_LONGEST_NAME (T : Txt K mg) : Cst mg "LONGEST_NAME" (.int 8) := by
  obtain ⟨h, X, N⟩ := T.ex
  obtain ⟨t, e⟩ := He.int_ok X N (T.says.fact 87 (f := .int "LONGEST_NAME" 8) rfl)
  exact ⟨_, e, t, rfl⟩
theorem Txt.c_HOLE (T : Txt K mg) : Cst mg "HOLE" (.str "T") := by
  obtain ⟨h, X, N⟩ := T.ex
  obtain ⟨t, e⟩ := He.str_ok X N (T.says.fact 88 (f := .str "HOLE" "T") rfl)
  exact ⟨_, e, t, rfl⟩
theorem Txt.c_LEFT (T : Txt K mg) : Cst mg "LEFT" (.str "<") := by
  obtain ⟨h, X, N⟩ := T.ex
  obtain ⟨t, e⟩ := He.str_ok X N (T.says.fact 89 (f := .str "LEFT" "<") rfl)
  exact ⟨_, e, t, rfl⟩
theorem Txt.c_RIGHT (T : Txt K mg) : Cst mg "RIGHT" (.str ">") := by
  obtain ⟨h, X, N⟩ := T.ex
  obtain ⟨t, e⟩ := He.str_ok X N (T.says.fact 90 (f := .str "RIGHT" ">") rfl)
  exact ⟨_, e, t, rfl⟩
theorem Txt.c_FUNCTION (T : Txt K mg) : Cst mg "FUNCTION" (.str "function") := by
  obtain ⟨h, X, N⟩ := T.ex
  obtain ⟨t, e⟩ := He.str_ok X N (T.says.fact 91 (f := .str "FUNCTION" "function") rfl)
  exact ⟨_, e, t, rfl⟩
theorem Txt.c_METHOD (T : Txt K mg) : Cst mg "METHOD" (.str "method") := by
  obtain ⟨h, X, N⟩ := T.ex
  obtain ⟨t, e⟩ := He.str_ok X N (T.says.fact 92 (f := .str "METHOD" "method") rfl)
  exact ⟨_, e, t, rfl⟩
theorem Txt.c_OPERATOR (T : Txt K mg) : Cst mg "OPERATOR" (.str "operator") := by
  obtain ⟨h, X, N⟩ := T.ex
  obtain ⟨t, e⟩ := He.str_ok X N (T.says.fact 93 (f := .str "OPERATOR" "operator") rfl)
  exact ⟨_, e, t, rfl⟩
theorem Txt.c_MOST_PARAMETERS (T : Txt K mg) : Cst mg "MOST_PARAMETERS" (.int 4) := by
  obtain ⟨h, X, N⟩ := T.ex
  obtain ⟨t, e⟩ := He.int_ok X N (T.says.fact 94 (f := .int "MOST_PARAMETERS" 4) rfl)
  exact ⟨_, e, t, rfl⟩
theorem Txt.c_ADD (T : Txt K mg) : Cst mg "ADD" (.str "add") := by
  obtain ⟨h, X, N⟩ := T.ex
  obtain ⟨t, e⟩ := He.str_ok X N (T.says.fact 95 (f := .str "ADD" "add") rfl)
  exact ⟨_, e, t, rfl⟩
theorem Txt.c_DROP (T : Txt K mg) : Cst mg "DROP" (.str "drop") := by
  obtain ⟨h, X, N⟩ := T.ex
  obtain ⟨t, e⟩ := He.str_ok X N (T.says.fact 96 (f := .str "DROP" "drop") rfl)
  exact ⟨_, e, t, rfl⟩
theorem Txt.c_UNDO (T : Txt K mg) : Cst mg "UNDO" (.str "undo") := by
  obtain ⟨h, X, N⟩ := T.ex
  obtain ⟨t, e⟩ := He.str_ok X N (T.says.fact 97 (f := .str "UNDO" "undo") rfl)
  exact ⟨_, e, t, rfl⟩
theorem Txt.c_HAND (T : Txt K mg) : Cst mg "HAND" (.int 0) := by
  obtain ⟨h, X, N⟩ := T.ex
  obtain ⟨t, e⟩ := He.int_ok X N (T.says.fact 98 (f := .int "HAND" 0) rfl)
  exact ⟨_, e, t, rfl⟩
theorem Txt.c_N (T : Txt K mg) : Cst mg "N" (.int 1) := by
  obtain ⟨h, X, N⟩ := T.ex
  obtain ⟨t, e⟩ := He.int_ok X N (T.says.fact 99 (f := .int "N" 1) rfl)
  exact ⟨_, e, t, rfl⟩
theorem Txt.c_DAY (T : Txt K mg) : Cst mg "DAY" (.int 2) := by
  obtain ⟨h, X, N⟩ := T.ex
  obtain ⟨t, e⟩ := He.int_ok X N (T.says.fact 100 (f := .int "DAY" 2) rfl)
  exact ⟨_, e, t, rfl⟩
theorem Txt.c_DEED (T : Txt K mg) : Cst mg "DEED" (.int 3) := by
  obtain ⟨h, X, N⟩ := T.ex
  obtain ⟨t, e⟩ := He.int_ok X N (T.says.fact 101 (f := .int "DEED" 3) rfl)
  exact ⟨_, e, t, rfl⟩
theorem Txt.t_WORDS (T : Txt K mg) (H : Hp) : SqT K H (He.ga K "WORDS") ((["let", "if", "give"] : List Str).map V.str) := by
  have h := T.lk
  exact He.tupB_ok (vs := [.str "let", .str "if", .str "give"]) (He.ba h).1 H
theorem Txt.c_WORDS (T : Txt K mg) : Cst mg "WORDS" (.ref (He.ga K "WORDS")) := by
  obtain ⟨hp, X, N⟩ := T.ex
  have h := T.lk
  exact ⟨_, PySem.W.mg_of X N (He.eqO_ok (He.ba (He.ba (He.ba (He.ba (He.ba h).2).2).2).2).1), rfl⟩
theorem Txt.t_OPERATORS (T : Txt K mg) (H : Hp) : SqT K H (He.ga K "OPERATORS") ((["+", "-", "*", "/", "&", "|", "^"] : List Str).map V.str) := by
  have h := T.lk
  exact He.tupB_ok (vs := [.str "+", .str "-", .str "*", .str "/", .str "&", .str "|", .str "^"]) (He.ba (He.ba h).2).1 H
theorem Txt.c_OPERATORS (T : Txt K mg) : Cst mg "OPERATORS" (.ref (He.ga K "OPERATORS")) := by
  obtain ⟨hp, X, N⟩ := T.ex
  have h := T.lk
  exact ⟨_, PySem.W.mg_of X N (He.eqO_ok (He.ba (He.ba (He.ba (He.ba (He.ba (He.ba h).2).2).2).2).2).1), rfl⟩
theorem Txt.t_SORTS (T : Txt K mg) (H : Hp) : SqT K H (He.ga K "SORTS") ((["function", "method", "operator"] : List Str).map V.str) := by
  have h := T.lk
  exact He.tupB_ok (vs := [.str "function", .str "method", .str "operator"]) (He.ba (He.ba (He.ba h).2).2).1 H
theorem Txt.c_SORTS (T : Txt K mg) : Cst mg "SORTS" (.ref (He.ga K "SORTS")) := by
  obtain ⟨hp, X, N⟩ := T.ex
  have h := T.lk
  exact ⟨_, PySem.W.mg_of X N (He.eqO_ok (He.ba (He.ba (He.ba (He.ba (He.ba (He.ba (He.ba h).2).2).2).2).2).2).1), rfl⟩
theorem Txt.t_ROLES (T : Txt K mg) (H : Hp) : SqT K H (He.ga K "ROLES") ((["number", "quote", "truth"] : List Str).map V.str) := by
  have h := T.lk
  exact He.tupB_ok (vs := [.str "number", .str "quote", .str "truth"]) (He.ba (He.ba (He.ba (He.ba h).2).2).2).1 H
theorem Txt.c_ROLES (T : Txt K mg) : Cst mg "ROLES" (.ref (He.ga K "ROLES")) := by
  obtain ⟨hp, X, N⟩ := T.ex
  have h := T.lk
  exact ⟨_, PySem.W.mg_of X N (He.eqO_ok (He.ba (He.ba (He.ba (He.ba (He.ba (He.ba (He.ba (He.ba h).2).2).2).2).2).2).2).1), rfl⟩
end
end Sw
end

section
set_option Elab.async false
set_option autoImplicit false
set_option linter.all false
set_option maxRecDepth 100000
set_option maxHeartbeats 4000000
namespace Sw
open PySem PySem.Spec PyProof.Rows L2
theorem sc_put : FnScope N_put ["pattern", "tail"] (defScope s_put) := ⟨rfl, rfl, rfl, nd_put, rfl, by decide +kernel, by decide +kernel⟩
theorem ok_put {G : Gx} {mg : Str → Option Value} {base : Heap} (T : Txt G.K mg) 
    (law : ∀ (B : Addr → Prop) (H : Hp) (ds : List D) (Q0 : D → Prop), ds.length = 2 → F_put ds Q0 → WS ⟨G, B, H⟩ (t_put G) (ent 2 ds) { nx := fun _ => Q0 .non, rt := Q0 }) : Dfn G.P G.w G.K mg base "put" ["pattern", "tail"] 1 (sp_put G) := by
  obtain ⟨fd, F, hm⟩ := T.d_put
  refine ⟨_, fd, hm, F.kp, F.bindsN (fun _ _ _ _ _ _ us hl => match us, hl with | [_, _], _ => rfl), F.ok sc_put spD_len (fun cdv A outer s H vs Q E hr h => ⟨t_put G, PSs.nox ?_, body_of (N := N_put) (n := 2) (by decide) law h⟩)⟩
  exact (pss_one (ps_ret (pe_ifExp (pt_cmpR (op_eqD hr.units) (pe_ix ix_seq (pv 0) (pe_un un_neg pe_int) (fun _ _ => rfl)) (pe_cst T.c_TAIL) (nomark _)) (pe_op op_addU (pe_slice sl_U (pv 0) po_none (po_some (pe_un un_neg pe_int))) (pv 1)) (pv 0))))

theorem sc_is_unknown : FnScope N_is_unknown ["kind"] (defScope s_is_unknown) := ⟨rfl, rfl, rfl, nd_is_unknown, rfl, by decide +kernel, by decide +kernel⟩
theorem ok_is_unknown {G : Gx} {mg : Str → Option Value} {base : Heap} (T : Txt G.K mg) 
    (law : ∀ (B : Addr → Prop) (H : Hp) (ds : List D) (Q0 : D → Prop), ds.length = 1 → F_is_unknown ds Q0 → WS ⟨G, B, H⟩ (t_is_unknown G) (ent 1 ds) { nx := fun _ => Q0 .non, rt := Q0 }) : Dfn G.P G.w G.K mg base "is_unknown" ["kind"] 1 (sp_is_unknown G) := by
  obtain ⟨fd, F, hm⟩ := T.d_is_unknown
  refine ⟨_, fd, hm, F.kp, F.bindsN (fun _ _ _ _ _ _ us hl => match us, hl with | [_], _ => rfl), F.ok sc_is_unknown spD_len (fun cdv A outer s H vs Q E hr h => ⟨t_is_unknown G, PSs.nox ?_, body_of (N := N_is_unknown) (n := 1) (by decide) law h⟩)⟩
  exact (pss_one (ps_ret (pe_callB call_isi (by rfl) T.free_isinstance (by decide +kernel) (pa_cons (pe_ix ix_seq (pv 0) (pe_un un_neg pe_int) (fun _ _ => rfl)) (pa_cons (pe_bltn (by rfl) T.free_int (by decide +kernel) rfl) pa_nil)))))

theorem sc_resolved : FnScope N_resolved ["kind", "bound"] (defScope s_resolved) := ⟨rfl, rfl, rfl, nd_resolved, rfl, by decide +kernel, by decide +kernel⟩
theorem ok_resolved {G : Gx} {mg : Str → Option Value} {base : Heap} (T : Txt G.K mg) (h_is_unknown : Dfn G.P G.w G.K mg base "is_unknown" ["kind"] 1 (sp_is_unknown G))
    (law : ∀ (B : Addr → Prop) (H : Hp) (ds : List D) (Q0 : D → Prop), ds.length = 2 → F_resolved ds Q0 → WS ⟨G, B, H⟩ (t_resolved G) (ent 3 ds) { nx := fun _ => Q0 .non, rt := Q0 }) : Dfn G.P G.w G.K mg base "resolved" ["kind", "bound"] 2 (sp_resolved G) := by
  obtain ⟨fd, F, hm⟩ := T.d_resolved
  refine ⟨_, fd, hm, F.kp, F.bindsN (fun _ _ _ _ _ _ us hl => match us, hl with | [_, _], _ => rfl), F.ok sc_resolved spD_len (fun cdv A outer s H vs Q E hr h => ⟨t_resolved G, PSs.nox ?_, body_of (N := N_resolved) (n := 2) (by decide) law h⟩)⟩
  exact (pss_cons (ps_set (i := 2) nd_resolved rfl (Or.inl rfl) (pv 0))
      (pss_cons (ps_while PassesOwn.never (PW.pt (pw_and (pt_val (pe_callD h_is_unknown (hr.mono (by decide)) (pa_cons (pv 2) pa_nil))) (pw_and1 (pt_cmp (pc_din (hu_of hr) (pe_ix ix_seq (pv 2) (pe_un un_neg pe_int) (fun _ _ => rfl)) (pv 1)))))) (pss_one (ps_set (i := 2) nd_resolved rfl (Or.inl rfl) (pe_op op_addU (pe_slice sl_U (pv 2) po_none (po_some (pe_un un_neg pe_int))) (pe_dget (hu_of hr) (pv 1) (pe_ix ix_seq (pv 2) (pe_un un_neg pe_int) (fun _ _ => rfl)) (fun _ _ => rfl))))))
      (pss_one (ps_ret (pv 2)))))

theorem sc_differing : FnScope N_differing ["one", "other"] (defScope s_differing) := ⟨rfl, rfl, rfl, nd_differing, rfl, by decide +kernel, by decide +kernel⟩
theorem ok_differing {G : Gx} {mg : Str → Option Value} {base : Heap} (T : Txt G.K mg) 
    (law : ∀ (B : Addr → Prop) (H : Hp) (ds : List D) (Q0 : D → Prop), ds.length = 2 → F_differing ds Q0 → WS ⟨G, B, H⟩ (t_differing G) (ent 4 ds) { nx := fun _ => Q0 .non, rt := Q0 }) : Dfn G.P G.w G.K mg base "differing" ["one", "other"] 1 (sp_differing G) := by
  obtain ⟨fd, F, hm⟩ := T.d_differing
  refine ⟨_, fd, hm, F.kp, F.bindsN (fun _ _ _ _ _ _ us hl => match us, hl with | [_, _], _ => rfl), F.ok sc_differing spD_len (fun cdv A outer s H vs Q E hr h => ⟨t_differing G, PSs.nox ?_, body_of (N := N_differing) (n := 2) (by decide) law h⟩)⟩
  exact (pss_cons (ps_set (i := 2) nd_differing rfl (Or.inl rfl) (pe_callB (call_min2 rfl) (by rfl) T.free_min (by decide +kernel) (pa_cons (pe_callB call_len (by rfl) T.free_len (by decide +kernel) (pa_cons (pv 0) pa_nil)) (pa_cons (pe_callB call_len (by rfl) T.free_len (by decide +kernel) (pa_cons (pv 1) pa_nil)) pa_nil))))
      (pss_cons (ps_set (i := 3) nd_differing rfl (Or.inl rfl) pe_int)
      (pss_cons (ps_while PassesOwn.never (PW.pt (pw_and (pt_cmpR (op_ltU hr.units0) (pv 3) (pe_op op_subU (pv 2) pe_int) (nomark _)) (pw_and1 (pt_cmpR (op_eqD hr.units) (pe_ix ix_seq (pv 0) (pv 3) (fun _ _ => rfl)) (pe_ix ix_seq (pv 1) (pv 3) (fun _ _ => rfl)) (nomark _))))) (pss_one (ps_set (i := 3) nd_differing rfl (Or.inl rfl) (pe_op op_addU (pv 3) pe_int))))
      (pss_one (ps_ret (pe_tup (pa_cons (pe_slice sl_U (pv 0) (po_some (pv 3)) po_none) (pa_cons (pe_slice sl_U (pv 1) (po_some (pv 3)) po_none) pa_nil))))))))

theorem sc_unified : FnScope N_unified ["one", "other", "bound"] (defScope s_unified) := ⟨rfl, rfl, rfl, nd_unified, rfl, by decide +kernel, by decide +kernel⟩
theorem ok_unified {G : Gx} {mg : Str → Option Value} {base : Heap} (T : Txt G.K mg) (h_differing : Dfn G.P G.w G.K mg base "differing" ["one", "other"] 1 (sp_differing G)) (h_is_unknown : Dfn G.P G.w G.K mg base "is_unknown" ["kind"] 1 (sp_is_unknown G)) (h_resolved : Dfn G.P G.w G.K mg base "resolved" ["kind", "bound"] 2 (sp_resolved G))
    (law : ∀ (B : Addr → Prop) (H : Hp) (ds : List D) (Q0 : D → Prop), ds.length = 3 → F_unified ds Q0 → WS ⟨G, B, H⟩ (t_unified G) (ent 5 ds) { nx := fun _ => Q0 .non, rt := Q0 }) : Dfn G.P G.w G.K mg base "unified" ["one", "other", "bound"] 3 (sp_unified G) := by
  obtain ⟨fd, F, hm⟩ := T.d_unified
  refine ⟨_, fd, hm, F.kp, F.bindsN (fun _ _ _ _ _ _ us hl => match us, hl with | [_, _, _], _ => rfl), F.ok sc_unified spD_len (fun cdv A outer s H vs Q E hr h => ⟨t_unified G, PSs.nox ?_, body_of (N := N_unified) (n := 3) (by decide) law h⟩)⟩
  exact (pss_cons (ps_asg (pe_callD h_differing (hr.mono (by decide)) (pa_cons (pe_callD h_resolved (hr.mono (by decide)) (pa_cons (pv 0) (pa_cons (pv 2) pa_nil))) (pa_cons (pe_callD h_resolved (hr.mono (by decide)) (pa_cons (pv 1) (pa_cons (pv 2) pa_nil))) pa_nil))) (pg_tup rfl (pgs_cons (pg_name (i := 3) nd_unified rfl (Or.inl rfl)) (pgs_cons (pg_name (i := 4) nd_unified rfl (Or.inl rfl)) pgs_nil))))
      (pss_cons (ps_if (pt_cmpR (op_eqD hr.units) (pv 3) (pv 4) (nomark _)) (pss_one (ps_ret (pv 2))) pss_nil)
      (pss_cons (ps_if (PW.pt (pw_or (pt_not (pt_val (pe_callD h_is_unknown (hr.mono (by decide)) (pa_cons (pv 3) pa_nil)))) (pw_or1 (pt_cmpR op_gtU (pe_callB call_len (by rfl) T.free_len (by decide +kernel) (pa_cons (pv 3) pa_nil)) pe_int (nomark _))))) (pss_one (ps_par (i := 3) (j := 4) rfl nd_unified rfl rfl (by decide) rfl rfl (pa_cons (pv 4) (pa_cons (pv 3) pa_nil)) (by rfl))) pss_nil)
      (pss_cons (ps_if (PW.pt (pw_or (pt_not (pt_val (pe_callD h_is_unknown (hr.mono (by decide)) (pa_cons (pv 3) pa_nil)))) (pw_or (pt_cmpR op_gtU (pe_callB call_len (by rfl) T.free_len (by decide +kernel) (pa_cons (pv 3) pa_nil)) pe_int (nomark _)) (pw_or1 (pt_cmpR (op_eqD hr.units) (pe_ix ix_seq (pv 4) (pe_un un_neg pe_int) (fun _ _ => rfl)) (pe_ix ix_seq (pv 3) (pe_un un_neg pe_int) (fun _ _ => rfl)) (nomark _)))))) (pss_one (ps_ret pe_non)) pss_nil)
      (pss_one (ps_ret (pe_mrg (pv 2) (pe_ix ix_seq (pv 3) pe_int (fun _ _ => rfl)) (pv 4))))))))

theorem sc_unified_all : FnScope N_unified_all ["ones", "others", "bound"] (defScope s_unified_all) := ⟨rfl, rfl, rfl, nd_unified_all, rfl, by decide +kernel, by decide +kernel⟩
theorem ok_unified_all {G : Gx} {mg : Str → Option Value} {base : Heap} (T : Txt G.K mg) (h_unified : Dfn G.P G.w G.K mg base "unified" ["one", "other", "bound"] 3 (sp_unified G))
    (law : ∀ (B : Addr → Prop) (H : Hp) (ds : List D) (Q0 : D → Prop), ds.length = 3 → F_unified_all ds Q0 → WS ⟨G, B, H⟩ (t_unified_all G) (ent 6 ds) { nx := fun _ => Q0 .non, rt := Q0 }) : Dfn G.P G.w G.K mg base "unified_all" ["ones", "others", "bound"] 4 (sp_unified_all G) := by
  obtain ⟨fd, F, hm⟩ := T.d_unified_all
  refine ⟨_, fd, hm, F.kp, F.bindsN (fun _ _ _ _ _ _ us hl => match us, hl with | [_, _, _], _ => rfl), F.ok sc_unified_all spD_len (fun cdv A outer s H vs Q E hr h => ⟨t_unified_all G, PSs.nox ?_, body_of (N := N_unified_all) (n := 3) (by decide) law h⟩)⟩
  exact (pss_cons (ps_set (i := 3) nd_unified_all rfl (Or.inl rfl) (pv 2))
      (pss_cons (ps_for PassesOwn.never rfl (pi_zipK (by rfl) T.free_zip (pa_cons (pv 0) (pa_cons (pv 1) pa_nil))) (pg_tup rfl (pgs_cons (pg_name (i := 4) nd_unified_all rfl (Or.inl rfl)) (pgs_cons (pg_name (i := 5) nd_unified_all rfl (Or.inl rfl)) pgs_nil))) (pss_one (ps_if (pt_cmpR op_notN1 (pv 3) pe_non (nomark _)) (pss_one (ps_set (i := 3) nd_unified_all rfl (Or.inl rfl) (pe_callD h_unified (hr.mono (by decide)) (pa_cons (pv 4) (pa_cons (pv 5) (pa_cons (pv 3) pa_nil)))))) pss_nil)))
      (pss_one (ps_ret (pv 3)))))
end Sw
end

section
set_option Elab.async false
set_option autoImplicit false
set_option linter.all false
set_option maxRecDepth 100000
set_option maxHeartbeats 4000000
namespace Sw
open PySem PySem.Spec PyProof.Rows L2
theorem sc__law_entries_on : FnScope N__law_entries_on ["entries", "records", "day"] (defScope s__law_entries_on) := ⟨rfl, rfl, rfl, nd__law_entries_on, rfl, by decide +kernel, by decide +kernel⟩
theorem ok__law_entries_on {G : Gx} {mg : Str → Option Value} {base : Heap} (T : Txt G.K mg) (h__law_do_clash : Dfn G.P G.w G.K mg base "_law_do_clash" ["one", "other"] 2 (sp__law_do_clash G)) (h__law_live : Dfn G.P G.w G.K mg base "_law_live" ["records", "day"] 8 (sp__law_live G))
    (law : ∀ (B : Addr → Prop) (H : Hp) (ds : List D) (Q0 : D → Prop), ds.length = 3 → F__law_entries_on ds Q0 → WS ⟨G, B, H⟩ (t__law_entries_on G) (ent 8 ds) { nx := fun _ => Q0 .non, rt := Q0 }) : Dfn G.P G.w G.K mg base "_law_entries_on" ["entries", "records", "day"] 9 (sp__law_entries_on G) := by
  obtain ⟨fd, F, hm⟩ := T.d__law_entries_on
  refine ⟨_, fd, hm, F.kp, F.bindsN (fun _ _ _ _ _ _ us hl => match us, hl with | [_, _, _], _ => rfl), F.ok sc__law_entries_on spD_len (fun cdv A outer s H vs Q E hr h => ⟨t__law_entries_on G, PSs.nox ?_, body_of (N := N__law_entries_on) (n := 3) (by decide) law h⟩)⟩
  exact (pss_cons (ps_set (i := 3) nd__law_entries_on rfl (Or.inl rfl) (pe_callTy call_list_of (by rfl) T.free_list (by decide +kernel) (pa_cons (pv 0) pa_nil)))
      (pss_cons (ps_for PassesOwn.never rfl (pi_seq (pe_callD h__law_live (hr.mono (by decide)) (pa_cons (pv 1) (pa_cons (pv 2) pa_nil)))) (pg_name (i := 4) nd__law_entries_on rfl (Or.inl rfl)) (pss_cons (ps_asg (pe_slice sl_U (pe_ix ix_seq (pv 4) pe_int (fun _ _ => rfl)) po_none (po_some pe_int)) (pg_tup rfl (pgs_cons (pg_name (i := 5) nd__law_entries_on rfl (Or.inl rfl)) (pgs_cons (pg_name (i := 6) nd__law_entries_on rfl (Or.inr rfl)) pgs_nil))))
      (pss_one (ps_if (pt_cmpR (op_eqD hr.units) (pv 5) pe_str (nomark _)) (pss_one (ps_setLc (i := 3) (own := [("entry", 7)]) (g := (gName 7)) (tt := (tTest (tOp (rNeD G.K) (tVar 7) (tVar 6)))) rfl nd__law_entries_on rfl rfl (sw_true rfl rfl rfl (by decide +kernel)) (pi_seq (pv 3)) (blkOk_by (own := [("entry", 7)]) (N := N__law_entries_on) (sc := defScope s__law_entries_on) (by decide +kernel)) (fun _ _ _ _ _ => (pg_name (i := 7) nd__law_entries_on rfl (Or.inl rfl))) (fun _ _ _ _ _ => (pts_one (pt_cmpR (op_neD hr.units) (pv 7) (pv 6) (nomark _)))) (fun _ _ _ _ _ => (pv 7)))) (pss_one (ps_if (PW.pt (pw_and (pt_cmpR (op_eqD hr.units) (pv 5) pe_str (nomark _)) (pw_and1 (pt_cmpR (op_eqD hr.units) (pe_lc (own := [("entry", 7)]) (g := (gName 7)) (tt := (tOr (tTest (tOp (rEqD G.K) (tVar 7) (tVar 6))) (tB (tCall (sp__law_do_clash G) [] E0 (tCons (tVar 7) (tCons (tVar 6) tNil)))))) rfl nd__law_entries_on (pi_seq (pv 3)) (blkOk_by (own := [("entry", 7)]) (N := N__law_entries_on) (sc := defScope s__law_entries_on) (by decide +kernel)) (fun _ _ _ _ _ => (pg_name (i := 7) nd__law_entries_on rfl (Or.inl rfl))) (fun _ _ _ _ _ => (pts_one (PW.pt (pw_or (pt_cmpR (op_eqD hr.units) (pv 7) (pv 6) (nomark _)) (pw_or1 (pt_val (pe_callD h__law_do_clash (hr.mono (by decide)) (pa_cons (pv 7) (pa_cons (pv 6) pa_nil))))))))) (fun _ _ _ _ _ => pe_int)) (pe_lst pa_nil) (nomark _))))) (pss_one (ps_expr (pe_bm PySem.F.plainAttrs_list PySem.F.slot_list_append PySem.F.type_list_append mt_append (pv 3) (pa_cons (pv 6) pa_nil)))) pss_nil))))))
      (pss_one (ps_ret (pe_callTy call_tuple_of (by rfl) T.free_tuple (by decide +kernel) (pa_cons (pe_callB (cr_sortedD hr.units) (by rfl) T.free_sorted (by decide +kernel) (pa_cons (pv 3) pa_nil)) pa_nil))))))
end Sw
end

section
set_option Elab.async false
set_option autoImplicit false
set_option linter.all false
set_option maxRecDepth 100000
set_option maxHeartbeats 4000000
namespace Sw
open PySem PySem.Spec PyProof.Rows L2 LamX
theorem sc__law_live : FnScope N__law_live ["records", "day"] (defScope s__law_live) := ⟨rfl, rfl, rfl, nd__law_live, rfl, by decide +kernel, by decide +kernel⟩
theorem ok__law_live {G : Gx} {mg : Str → Option Value} {base : Heap} (T : Txt G.K mg) {P : Addr} (hG : ∀ H, G.tb H ↔ TabS H P "_law_live.<locals>.<lambda>") (hTB : TabB base mg (He.codeOf G.K ("_law_live", none)) P)
    (law : ∀ (B : Addr → Prop) (H : Hp) (ds : List D) (Q0 : D → Prop), ds.length = 2 → F__law_live ds Q0 → WS ⟨G, B, H⟩ (t__law_live G) (ent 6 ds) { nx := fun _ => Q0 .non, rt := Q0 }) : Dfn G.P G.w G.K mg base "_law_live" ["records", "day"] 8 (sp__law_live G) := by
  obtain ⟨fd, F, hm⟩ := T.d__law_live
  have kp := F.kp
  have bn := F.bindsN (ps := ["records", "day"]) (fun _ _ _ _ _ _ us hl => match us, hl with | [_, _], _ => rfl)
  obtain ⟨oc, od, dV, kV, doc, pm, an, cdv, ct, osl, rfl, lk, hcd, _, _⟩ := F.ex
  obtain ⟨c, rfl⟩ := He.codeIn_ref hcd
  have TB : TabB base mg c P := by
    have e := He.codeOf_eq (K := G.K) (p := ("_law_live", none)) lk rfl
    rw [e] at hTB
    exact hTB
  refine ⟨_, _, hm, kp, bn, fn_of lk hcd sc__law_live spD_len (fun A outer s H vs Q E hr h => ⟨t__law_live G, PSs.nox ?_, body_of (N := N__law_live) (n := 2) (by decide) law h⟩)⟩
  exact (pss_cons (ps_par (i := 2) (j := 3) rfl nd__law_live rfl rfl (by decide) rfl rfl (pa_cons (pe_lst pa_nil) (pa_cons (pe_lst pa_nil) pa_nil)) (by rfl))
      (pss_cons (ps_for PassesOwn.never rfl (pi_seq (pe_revL (pe_sortKL (G := G) (q := "_law_live.<locals>.<lambda>") (N := ["it"]) (y := "it") (k := 0) rfl hG TB rfl rfl rfl (by decide +kernel) (by rfl) ⟨rfl, rfl, rfl, by decide, rfl, by decide +kernel, by decide +kernel⟩ (fun _ _ _ _ => rfl)
        (fun f c' A outer s H hr => (pe_tup (pa_cons (pe_ix ix_seq (pv 0) pe_int (fun _ _ => rfl)) (pa_cons (pe_ix ix_seq (pv 0) pe_int (fun _ _ => rfl)) (pa_cons (pe_ix ix_seq (pv 0) pe_int (fun _ _ => rfl)) pa_nil))))) (hr.mono (by decide)) (pa_cons (pe_lc (own := [("it", 5)]) (g := (gName 5)) (tt := (tTest (tOp rLeU (tOp (rIx G.K) (tVar 5) (tC (.int 2))) (tVar 1)))) rfl nd__law_live (pi_seq (pv 0)) (blkOk_by (own := [("it", 5)]) (N := N__law_live) (sc := defScope s__law_live) (by decide +kernel)) (fun _ _ _ _ _ => (pg_name (i := 5) nd__law_live rfl (Or.inl rfl))) (fun _ _ _ _ _ => (pts_one (pt_cmpR op_leU (pe_ix ix_seq (pv 5) pe_int (fun _ _ => rfl)) (pv 1) (nomark _)))) (fun _ _ _ _ _ => (pv 5))) pa_nil) rfl T.free_sorted))) (pg_name (i := 4) nd__law_live rfl (Or.inl rfl)) (pss_one (ps_if (pt_cmpR (op_notInU (hin hr)) (pe_slice sl_U (pv 4) po_none (po_some pe_int)) (pv 3) rfl) (pss_cons (ps_expr (pe_bm PySem.F.plainAttrs_list PySem.F.slot_list_append PySem.F.type_list_append mt_append (pv 2) (pa_cons (pv 4) pa_nil)))
      (pss_one (ps_expr (pe_bm PySem.F.plainAttrs_list PySem.F.slot_list_extend PySem.F.type_list_extend mt_extend (pv 3) (pa_cons (pe_ifExp (pt_cmpR (op_eqD hr.units) (pe_ix ix_seq (pe_ix ix_seq (pv 4) pe_int (fun _ _ => rfl)) pe_int (fun _ _ => rfl)) pe_str (nomark _)) (pe_lst (pa_cons (pe_slice sl_U (pe_ix ix_seq (pv 4) pe_int (fun _ _ => rfl)) (po_some pe_int) po_none) pa_nil)) (pe_lst pa_nil)) pa_nil))))) pss_nil)))
      (pss_one (ps_ret (pe_callTy call_tuple_of (by rfl) T.free_tuple (by decide +kernel) (pa_cons (pe_revL (pv 2)) pa_nil))))))
end Sw
end

section
set_option Elab.async false
set_option autoImplicit false
set_option linter.all false
set_option maxRecDepth 100000
set_option maxHeartbeats 4000000
namespace Sw
open PySem PySem.Spec PyProof.Rows L2
theorem sc__law_do_meet : FnScope N__law_do_meet ["rows", "others"] (defScope s__law_do_meet) := ⟨rfl, rfl, rfl, nd__law_do_meet, rfl, by decide +kernel, by decide +kernel⟩
theorem ok__law_do_meet {G : Gx} {mg : Str → Option Value} {base : Heap} (T : Txt G.K mg) 
    (law : ∀ (B : Addr → Prop) (H : Hp) (ds : List D) (Q0 : D → Prop), ds.length = 2 → F__law_do_meet ds Q0 → WS ⟨G, B, H⟩ (t__law_do_meet G) (ent 13 ds) { nx := fun _ => Q0 .non, rt := Q0 }) : Dfn G.P G.w G.K mg base "_law_do_meet" ["rows", "others"] 1 (sp__law_do_meet G) := by
  obtain ⟨fd, F, hm⟩ := T.d__law_do_meet
  refine ⟨_, fd, hm, F.kp, F.bindsN (fun _ _ _ _ _ _ us hl => match us, hl with | [_, _], _ => rfl), F.ok sc__law_do_meet spD_len (fun cdv A outer s H vs Q E hr h => ⟨t__law_do_meet G, PSs.nox ?_, body_of (N := N__law_do_meet) (n := 2) (by decide) law h⟩)⟩
  exact (pss_cons (ps_asg (pe_tup (pa_cons (pe_disp (pps_cons pe_int (pe_lst pa_nil) (pps_cons pe_int (pe_lst pa_nil) pps_nil)) (by rfl) (by rfl) (fun z => by cases z) (by decide)) (pa_cons (pe_disp (pps_cons pe_int (pe_lst pa_nil) (pps_cons pe_int (pe_lst pa_nil) pps_nil)) (by rfl) (by rfl) (fun z => by cases z) (by decide)) pa_nil))) (pg_tup rfl (pgs_cons (pg_name (i := 2) nd__law_do_meet rfl (Or.inr rfl)) (pgs_cons (pg_name (i := 3) nd__law_do_meet rfl (Or.inr rfl)) pgs_nil))))
      (pss_cons (ps_for PassesOwn.never rfl (pi_zipK (by rfl) T.free_zip (pa_cons (pv 0) (pa_cons (pv 1) pa_nil))) (pg_tup rfl (pgs_cons (pg_name (i := 4) nd__law_do_meet rfl (Or.inl rfl)) (pgs_cons (pg_name (i := 5) nd__law_do_meet rfl (Or.inl rfl)) pgs_nil))) (pss_cons (ps_par (i := 6) (j := 7) rfl nd__law_do_meet rfl rfl (by decide) rfl rfl (pa_cons (pe_slice sl_U (pv 4) po_none (po_some (pe_un un_neg pe_int))) (pa_cons (pe_slice sl_U (pv 5) po_none (po_some (pe_un un_neg pe_int))) pa_nil)) (by rfl))
      (pss_one (ps_if (PW.pt (pw_and (pt_cmpR (op_neD hr.units) (pe_ix ix_seq (pv 4) (pe_un un_neg pe_int) (fun _ _ => rfl)) pe_str (nomark _)) (pw_and1 (pt_cmpR (op_neD hr.units) (pe_ix ix_seq (pv 5) (pe_un un_neg pe_int) (fun _ _ => rfl)) pe_str (nomark _))))) (pss_one (ps_if (pt_cmpR (op_neD hr.units) (pv 4) (pv 5) (nomark _)) (pss_one (ps_ret pe_bl)) pss_nil)) (pss_one (ps_if (PW.pt (pw_and (pt_cmpR (op_eqD hr.units) (pe_ix ix_seq (pv 4) (pe_un un_neg pe_int) (fun _ _ => rfl)) pe_str (nomark _)) (pw_and1 (pt_cmpR (op_eqD hr.units) (pe_ix ix_seq (pv 5) (pe_un un_neg pe_int) (fun _ _ => rfl)) pe_str (nomark _))))) (pss_cons (ps_set (i := 8) nd__law_do_meet rfl (Or.inl rfl) (pe_callB (call_min2 rfl) (by rfl) T.free_min (by decide +kernel) (pa_cons (pe_callB call_len (by rfl) T.free_len (by decide +kernel) (pa_cons (pv 6) pa_nil)) (pa_cons (pe_callB call_len (by rfl) T.free_len (by decide +kernel) (pa_cons (pv 7) pa_nil)) pa_nil))))
      (pss_cons (ps_if (pt_cmpR (op_neD hr.units) (pe_slice sl_U (pv 6) po_none (po_some (pv 8))) (pe_slice sl_U (pv 7) po_none (po_some (pv 8))) (nomark _)) (pss_one (ps_ret pe_bl)) pss_nil)
      (pss_one (ps_expr (pe_bm PySem.F.plainAttrs_list PySem.F.slot_list_append PySem.F.type_list_append mt_append (pe_dget (hu_of hr) (pv 3) (pe_callTy call_int1 (by rfl) T.free_int (by decide +kernel) (pa_cons (pe_cmpR op_gtU (pe_callB call_len (by rfl) T.free_len (by decide +kernel) (pa_cons (pv 6) pa_nil)) (pe_callB call_len (by rfl) T.free_len (by decide +kernel) (pa_cons (pv 7) pa_nil)) (nomark _)) pa_nil)) (fun _ _ => rfl)) (pa_cons (pe_slice sl_U (pe_ifExp (pt_cmpR op_leU (pe_callB call_len (by rfl) T.free_len (by decide +kernel) (pa_cons (pv 6) pa_nil)) (pe_callB call_len (by rfl) T.free_len (by decide +kernel) (pa_cons (pv 7) pa_nil)) (nomark _)) (pv 7) (pv 6)) (po_some (pv 8)) po_none) pa_nil)))))) (pss_cons (ps_set (i := 9) nd__law_do_meet rfl (Or.inl rfl) (pe_callTy call_int1 (by rfl) T.free_int (by decide +kernel) (pa_cons (pe_cmpR (op_neD hr.units) (pe_ix ix_seq (pv 4) (pe_un un_neg pe_int) (fun _ _ => rfl)) pe_str (nomark _)) pa_nil)))
      (pss_cons (ps_asg (pe_ifExp (pt_cmpR (op_eqD hr.units) (pv 9) pe_int (nomark _)) (pe_tup (pa_cons (pv 6) (pa_cons (pv 5) pa_nil))) (pe_tup (pa_cons (pv 7) (pa_cons (pv 4) pa_nil)))) (pg_tup rfl (pgs_cons (pg_name (i := 10) nd__law_do_meet rfl (Or.inl rfl)) (pgs_cons (pg_name (i := 11) nd__law_do_meet rfl (Or.inl rfl)) pgs_nil))))
      (pss_cons (ps_if (PW.pt (pw_or (pt_cmpR op_leU (pe_callB call_len (by rfl) T.free_len (by decide +kernel) (pa_cons (pv 11) pa_nil)) (pe_callB call_len (by rfl) T.free_len (by decide +kernel) (pa_cons (pv 10) pa_nil)) (nomark _)) (pw_or1 (pt_cmpR (op_neD hr.units) (pe_slice sl_U (pv 11) po_none (po_some (pe_callB call_len (by rfl) T.free_len (by decide +kernel) (pa_cons (pv 10) pa_nil)))) (pv 10) (nomark _))))) (pss_one (ps_ret pe_bl)) pss_nil)
      (pss_one (ps_expr (pe_bm PySem.F.plainAttrs_list PySem.F.slot_list_append PySem.F.type_list_append mt_append (pe_dget (hu_of hr) (pv 2) (pv 9) (fun _ _ => rfl)) (pa_cons (pe_slice sl_U (pv 11) (po_some (pe_callB call_len (by rfl) T.free_len (by decide +kernel) (pa_cons (pv 10) pa_nil))) po_none) pa_nil)))))))))))))
      (pss_cons (ps_if (pt_cmpR (op_neD hr.units) (pe_lc (own := [("side", 9)]) (g := (gName 9)) (tt := (tOr (tTest (tOp rGtU (tLenSet G.K (tDGet (tVar 3) (tVar 9))) (tC (.int 1)))) (tTest (tOp rGtU (tLenSet G.K (tDGet (tVar 2) (tVar 9))) (tC (.int 1)))))) rfl nd__law_do_meet (pi_seq (pe_tup (pa_cons pe_int (pa_cons pe_int pa_nil)))) (blkOk_by (own := [("side", 9)]) (N := N__law_do_meet) (sc := defScope s__law_do_meet) (by decide +kernel)) (fun _ _ _ _ _ => (pg_name (i := 9) nd__law_do_meet rfl (Or.inl rfl))) (fun _ _ _ _ _ => (pts_one (PW.pt (pw_or (pt_cmpR op_gtU (pe_lenSet hr.hd hr.units T.free_len T.free_set (pe_dget (hu_of hr) (pv 3) (pv 9) (fun _ _ => rfl))) pe_int (nomark _)) (pw_or1 (pt_cmpR op_gtU (pe_lenSet hr.hd hr.units T.free_len T.free_set (pe_dget (hu_of hr) (pv 2) (pv 9) (fun _ _ => rfl))) pe_int (nomark _))))))) (fun _ _ _ _ _ => pe_int)) (pe_lst pa_nil) (nomark _)) (pss_one (ps_ret pe_bl)) pss_nil)
      (pss_cons (ps_if (PW.pt (pw_and (pt_cmpR (op_neD hr.units) (pe_dget (hu_of hr) (pv 3) pe_int (fun _ _ => rfl)) (pe_lst pa_nil) (nomark _)) (pw_and (pt_cmpR (op_neD hr.units) (pe_dget (hu_of hr) (pv 3) pe_int (fun _ _ => rfl)) (pe_lst pa_nil) (nomark _)) (pw_and1 (PW.pt (pw_or (pt_cmpR (op_neD hr.units) (pe_ix ix_seq (pe_dget (hu_of hr) (pv 3) pe_int (fun _ _ => rfl)) pe_int (fun _ _ => rfl)) (pe_tup pa_nil) (nomark _)) (pw_or1 (pt_cmpR (op_neD hr.units) (pe_ix ix_seq (pe_dget (hu_of hr) (pv 3) pe_int (fun _ _ => rfl)) pe_int (fun _ _ => rfl)) (pe_tup pa_nil) (nomark _))))))))) (pss_one (ps_ret pe_bl)) pss_nil)
      (pss_cons (ps_for PassesOwn.never rfl (pi_seq (pe_tup (pa_cons pe_int (pa_cons pe_int pa_nil)))) (pg_name (i := 9) nd__law_do_meet rfl (Or.inl rfl)) (pss_one (ps_for PassesOwn.never rfl (pi_seq (pe_slice sl_U (pe_dget (hu_of hr) (pv 3) (pv 9) (fun _ _ => rfl)) po_none (po_some pe_int))) (pg_name (i := 12) nd__law_do_meet rfl (Or.inl rfl)) (pss_cons (ps_if (PW.pt (pw_and (pt_cmpR (op_neD hr.units) (pe_dget (hu_of hr) (pv 2) (pe_op op_subU pe_int (pv 9)) (fun _ _ => rfl)) (pe_lst pa_nil) (nomark _)) (pw_and (pt_cmpR (op_neD hr.units) (pe_dget (hu_of hr) (pv 2) (pv 9) (fun _ _ => rfl)) (pe_lst pa_nil) (nomark _)) (pw_and1 (pt_cmpR (op_neD hr.units) (pe_ix ix_seq (pe_dget (hu_of hr) (pv 2) (pv 9) (fun _ _ => rfl)) pe_int (fun _ _ => rfl)) (pe_op op_addU (pv 12) (pe_ix ix_seq (pe_dget (hu_of hr) (pv 2) (pe_op op_subU pe_int (pv 9)) (fun _ _ => rfl)) pe_int (fun _ _ => rfl))) (nomark _)))))) (pss_one (ps_ret pe_bl)) pss_nil)
      (pss_one (ps_if (PW.pt (pw_and (pt_cmpR (op_neD hr.units) (pe_dget (hu_of hr) (pv 2) (pv 9) (fun _ _ => rfl)) (pe_lst pa_nil) (nomark _)) (pw_and1 (PW.pt (pw_or (pt_cmpR (op_neD hr.units) (pe_slice sl_U (pe_ix ix_seq (pe_dget (hu_of hr) (pv 2) (pv 9) (fun _ _ => rfl)) pe_int (fun _ _ => rfl)) po_none (po_some (pe_callB call_len (by rfl) T.free_len (by decide +kernel) (pa_cons (pv 12) pa_nil)))) (pv 12) (nomark _)) (pw_or1 (pt_cmpR op_leU (pe_callB call_len (by rfl) T.free_len (by decide +kernel) (pa_cons (pe_ix ix_seq (pe_dget (hu_of hr) (pv 2) (pv 9) (fun _ _ => rfl)) pe_int (fun _ _ => rfl)) pa_nil)) (pe_callB call_len (by rfl) T.free_len (by decide +kernel) (pa_cons (pv 12) pa_nil)) (nomark _)))))))) (pss_one (ps_ret pe_bl)) pss_nil))))))
      (pss_one (ps_ret pe_bl)))))))
end Sw
end

section
set_option Elab.async false
set_option autoImplicit false
set_option linter.all false
set_option maxRecDepth 100000
set_option maxHeartbeats 4000000
namespace Sw
open PySem PySem.Spec PyProof.Rows L2
theorem sc__law_some : FnScope N__law_some ["deck", "some", "many"] (defScope s__law_some) := ⟨rfl, rfl, rfl, nd__law_some, rfl, by decide +kernel, by decide +kernel⟩
theorem ok__law_some {G : Gx} {mg : Str → Option Value} {base : Heap} (T : Txt G.K mg) (h__law_draw : Dfn G.P G.w G.K mg base "_law_draw" ["deck", "many"] 1 (sp__law_draw G))
    (law : ∀ (B : Addr → Prop) (H : Hp) (ds : List D) (Q0 : D → Prop), ds.length = 3 → F__law_some ds Q0 → WS ⟨G, B, H⟩ (t__law_some G) (ent 5 ds) { nx := fun _ => Q0 .non, rt := Q0 }) : Dfn G.P G.w G.K mg base "_law_some" ["deck", "some", "many"] 2 (sp__law_some G) := by
  obtain ⟨fd, F, hm⟩ := T.d__law_some
  refine ⟨_, fd, hm, F.kp, F.bindsN (fun _ _ _ _ _ _ us hl => match us, hl with | [_, _, _], _ => rfl), F.ok sc__law_some spD_len (fun cdv A outer s H vs Q E hr h => ⟨t__law_some G, PSs.nox ?_, body_of (N := N__law_some) (n := 3) (by decide) law h⟩)⟩
  exact (pss_cons (ps_set (i := 3) nd__law_some rfl (Or.inr rfl) (pe_callTy call_list_of (by rfl) T.free_list (by decide +kernel) (pa_cons (pv 1) pa_nil)))
      (pss_one (ps_ret (pe_lc (own := [("turn", 4)]) (g := (gName 4)) (tt := tYes) rfl nd__law_some (pi_range1 (by rfl) T.free_range (pa_cons (pv 2) pa_nil)) (blkOk_by (own := [("turn", 4)]) (N := N__law_some) (sc := defScope s__law_some) (by decide +kernel)) (fun _ _ _ _ _ => (pg_name (i := 4) nd__law_some rfl (Or.inl rfl))) (fun _ _ _ _ _ => pts_nil) (fun _ _ _ _ _ => (pe_bm PySem.F.plainAttrs_list PySem.F.slot_list_pop PySem.F.type_list_pop mt_popAt (pv 3) (pa_cons (pe_callD h__law_draw (hr.mono (by decide)) (pa_cons (pv 0) (pa_cons (pe_callB call_len (by rfl) T.free_len (by decide +kernel) (pa_cons (pv 3) pa_nil)) pa_nil))) pa_nil)))))))
end Sw
end

section
set_option Elab.async false
set_option autoImplicit false
set_option linter.all false
set_option maxRecDepth 100000
set_option maxHeartbeats 4000000
namespace Sw
open PySem PySem.Spec PyProof.Rows L2
theorem sc__law_drawn_records : FnScope N__law_drawn_records ["deck", "pool", "hands", "many", "days"] (defScope s__law_drawn_records) := ⟨rfl, rfl, rfl, nd__law_drawn_records, rfl, by decide +kernel, by decide +kernel⟩
theorem ok__law_drawn_records {G : Gx} {mg : Str → Option Value} {base : Heap} (T : Txt G.K mg) (h__law_draw : Dfn G.P G.w G.K mg base "_law_draw" ["deck", "many"] 1 (sp__law_draw G)) (h__law_drawn_deed : Dfn G.P G.w G.K mg base "_law_drawn_deed" ["deck", "pool", "hands", "found"] 3 (sp__law_drawn_deed G)) (h__law_pick : Dfn G.P G.w G.K mg base "_law_pick" ["deck", "some"] 2 (sp__law_pick G)) (h__law_some : Dfn G.P G.w G.K mg base "_law_some" ["deck", "some", "many"] 2 (sp__law_some G))
    (law : ∀ (B : Addr → Prop) (H : Hp) (ds : List D) (Q0 : D → Prop), ds.length = 5 → F__law_drawn_records ds Q0 → WS ⟨G, B, H⟩ (t__law_drawn_records G) (ent 9 ds) { nx := fun _ => Q0 .non, rt := Q0 }) : Dfn G.P G.w G.K mg base "_law_drawn_records" ["deck", "pool", "hands", "many", "days"] 4 (sp__law_drawn_records G) := by
  obtain ⟨fd, F, hm⟩ := T.d__law_drawn_records
  refine ⟨_, fd, hm, F.kp, F.bindsN (fun _ _ _ _ _ _ us hl => match us, hl with | [_, _, _, _, _], _ => rfl), F.ok sc__law_drawn_records spD_len (fun cdv A outer s H vs Q E hr h => ⟨t__law_drawn_records G, PSs.nox ?_, body_of (N := N__law_drawn_records) (n := 5) (by decide) law h⟩)⟩
  exact (pss_cons (ps_par (i := 5) (j := 6) rfl nd__law_drawn_records rfl rfl (by decide) rfl rfl (pa_cons (pe_lst pa_nil) (pa_cons (pe_op op_mulU (pe_lst (pa_cons pe_int pa_nil)) (pv 2)) pa_nil)) (by rfl))
      (pss_cons (ps_for PassesOwn.never rfl (pi_range1 (by rfl) T.free_range (pa_cons (pv 3) pa_nil)) (pg_name (i := 7) nd__law_drawn_records rfl (Or.inl rfl)) (pss_cons (ps_set (i := 8) nd__law_drawn_records rfl (Or.inl rfl) (pe_callD h__law_draw (hr.mono (by decide)) (pa_cons (pv 0) (pa_cons (pv 2) pa_nil))))
      (pss_cons (ps_expr (pe_bm PySem.F.plainAttrs_list PySem.F.slot_list_append PySem.F.type_list_append mt_append (pv 5) (pa_cons (pe_tup (pa_cons (pv 8) (pa_cons (pe_ix ix_seq (pv 6) (pv 8) (fun _ _ => rfl)) (pa_cons (pe_callD h__law_pick (hr.mono (by decide)) (pa_cons (pv 0) (pa_cons (pv 4) pa_nil))) (pa_cons (pe_callD h__law_drawn_deed (hr.mono (by decide)) (pa_cons (pv 0) (pa_cons (pv 1) (pa_cons (pv 2) (pa_cons (pv 5) pa_nil))))) pa_nil))))) pa_nil)))
      (pss_one (ps_asg (pe_op op_addU (pe_ix ix_seq (pv 6) (pv 8) (fun _ _ => rfl)) (pe_callD h__law_pick (hr.mono (by decide)) (pa_cons (pv 0) (pa_cons (pe_lst (pa_cons pe_int (pa_cons pe_int (pa_cons pe_int (pa_cons pe_int pa_nil))))) pa_nil)))) (pg_sub (pv 6) (pv 8) set_list))))))
      (pss_one (ps_ret (pe_callTy call_tuple_of (by rfl) T.free_tuple (by decide +kernel) (pa_cons (pe_callD h__law_some (hr.mono (by decide)) (pa_cons (pv 0) (pa_cons (pv 5) (pa_cons (pe_callB call_len (by rfl) T.free_len (by decide +kernel) (pa_cons (pv 5) pa_nil)) pa_nil)))) pa_nil))))))

theorem sc__law_like : FnScope N__law_like ["deck", "entry", "parts"] (defScope s__law_like) := ⟨rfl, rfl, rfl, nd__law_like, rfl, by decide +kernel, by decide +kernel⟩
theorem ok__law_like {G : Gx} {mg : Str → Option Value} {base : Heap} (T : Txt G.K mg) (h__law_draw : Dfn G.P G.w G.K mg base "_law_draw" ["deck", "many"] 1 (sp__law_draw G)) (h__law_pattern : Dfn G.P G.w G.K mg base "_law_pattern" ["deck", "constructors", "lasts", "most"] 3 (sp__law_pattern G)) (h__law_pick : Dfn G.P G.w G.K mg base "_law_pick" ["deck", "some"] 2 (sp__law_pick G))
    (law : ∀ (B : Addr → Prop) (H : Hp) (ds : List D) (Q0 : D → Prop), ds.length = 3 → F__law_like ds Q0 → WS ⟨G, B, H⟩ (t__law_like G) (ent 10 ds) { nx := fun _ => Q0 .non, rt := Q0 }) : Dfn G.P G.w G.K mg base "_law_like" ["deck", "entry", "parts"] 4 (sp__law_like G) := by
  obtain ⟨fd, F, hm⟩ := T.d__law_like
  refine ⟨_, fd, hm, F.kp, F.bindsN (fun _ _ _ _ _ _ us hl => match us, hl with | [_, _, _], _ => rfl), F.ok sc__law_like spD_len (fun cdv A outer s H vs Q E hr h => ⟨t__law_like G, PSs.nox ?_, body_of (N := N__law_like) (n := 3) (by decide) law h⟩)⟩
  exact (pss_cons (ps_par (i := 3) (j := 4) rfl nd__law_like rfl rfl (by decide) rfl rfl (pa_cons (pe_dget (hu_of hr) (pv 2) pe_str (fun _ _ => rfl)) (pa_cons (pe_dget (hu_of hr) (pv 2) pe_str (fun _ _ => rfl)) pa_nil)) (by rfl))
      (pss_cons (ps_par (i := 5) (j := 6) rfl nd__law_like rfl rfl (by decide) rfl rfl (pa_cons (pe_callTy call_list_of (by rfl) T.free_list (by decide +kernel) (pa_cons (pe_ix ix_seq (pv 1) pe_int (fun _ _ => rfl)) pa_nil)) (pa_cons (pe_callD h__law_pick (hr.mono (by decide)) (pa_cons (pv 0) (pa_cons (pe_lst (pa_cons (pe_ix ix_seq (pv 1) pe_int (fun _ _ => rfl)) (pa_cons (pe_ix ix_seq (pv 1) pe_int (fun _ _ => rfl)) (pa_cons (pe_callD h__law_pattern (hr.mono (by decide)) (pa_cons (pv 0) (pa_cons (pv 4) (pa_cons (pv 3) (pa_cons pe_int pa_nil))))) pa_nil)))) pa_nil))) pa_nil)) (by rfl))
      (pss_cons (ps_if (PW.pt (pw_and (pt_cmpR (op_neD hr.units) (pv 5) (pe_lst pa_nil) (nomark _)) (pw_and1 (pt_cmpR op_gtU (pe_callD h__law_draw (hr.mono (by decide)) (pa_cons (pv 0) (pa_cons pe_int pa_nil))) pe_int (nomark _))))) (pss_cons (ps_set (i := 7) nd__law_like rfl (Or.inl rfl) (pe_callD h__law_draw (hr.mono (by decide)) (pa_cons (pv 0) (pa_cons (pe_callB call_len (by rfl) T.free_len (by decide +kernel) (pa_cons (pv 5) pa_nil)) pa_nil))))
      (pss_cons (ps_asg (pe_callD h__law_pick (hr.mono (by decide)) (pa_cons (pv 0) (pa_cons (pe_lst (pa_cons (pe_tup (pa_cons pe_str pa_nil)) (pa_cons (pe_slice sl_U (pe_ix ix_seq (pv 5) (pv 7) (fun _ _ => rfl)) po_none (po_some pe_int)) (pa_cons (pe_op op_addU (pe_slice sl_U (pe_ix ix_seq (pv 5) (pv 7) (fun _ _ => rfl)) po_none (po_some (pe_un un_neg pe_int))) (pe_tup (pa_cons pe_str pa_nil))) (pa_cons (pe_callD h__law_pattern (hr.mono (by decide)) (pa_cons (pv 0) (pa_cons (pv 4) (pa_cons (pe_op op_addU (pe_tup (pa_cons pe_str pa_nil)) (pv 3)) (pa_cons pe_int pa_nil))))) pa_nil))))) pa_nil))) (pg_sub (pv 5) (pv 7) set_list))
      (pss_one (ps_asg (pe_ifExp (pt_cmpR (op_inU (hin hr)) (pe_ix ix_seq (pe_ix ix_seq (pv 5) (pv 7) (fun _ _ => rfl)) (pe_un un_neg pe_int) (fun _ _ => rfl)) (pe_op op_addU (pe_tup (pa_cons pe_str pa_nil)) (pv 3)) rfl) (pe_ix ix_seq (pv 5) (pv 7) (fun _ _ => rfl)) (pe_ix ix_seq (pe_ix ix_seq (pv 1) pe_int (fun _ _ => rfl)) (pv 7) (fun _ _ => rfl))) (pg_sub (pv 5) (pv 7) set_list))))) pss_nil)
      (pss_cons (ps_set (i := 8) nd__law_like rfl (Or.inl rfl) (pe_cmpR (op_neD hr.units) (pe_lc (own := [("pattern", 9)]) (g := (gName 9)) (tt := (tTest (tOp (rEqD G.K) (tOp (rIx G.K) (tVar 9) (tUn (rU fun i => .int (-i)) (tC (.int 1)))) (tC (.str "T"))))) rfl nd__law_like (pi_seq (pv 5)) (blkOk_by (own := [("pattern", 9)]) (N := N__law_like) (sc := defScope s__law_like) (by decide +kernel)) (fun _ _ _ _ _ => (pg_name (i := 9) nd__law_like rfl (Or.inl rfl))) (fun _ _ _ _ _ => (pts_one (pt_cmpR (op_eqD hr.units) (pe_ix ix_seq (pv 9) (pe_un un_neg pe_int) (fun _ _ => rfl)) pe_str (nomark _)))) (fun _ _ _ _ _ => pe_int)) (pe_lst pa_nil) (nomark _)))
      (pss_one (ps_ret (pe_op op_addU (pe_slice sl_U (pv 1) po_none (po_some pe_int)) (pe_tup (pa_cons (pe_callTy call_tuple_of (by rfl) T.free_tuple (by decide +kernel) (pa_cons (pv 5) pa_nil)) (pa_cons (pe_ifExp (PW.pt (pw_or (pt_val (pv 8)) (pw_or1 (pt_cmpR (op_neD hr.units) (pe_ix ix_seq (pv 6) (pe_un un_neg pe_int) (fun _ _ => rfl)) pe_str (nomark _))))) (pv 6) (pe_op op_addU (pe_slice sl_U (pv 6) po_none (po_some (pe_un un_neg pe_int))) (pe_slice sl_U (pv 3) po_none (po_some pe_int)))) pa_nil))))))))))
end Sw
end

section
set_option Elab.async false
set_option autoImplicit false
set_option linter.all false
set_option maxRecDepth 100000
set_option maxHeartbeats 4000000
namespace Sw
open PySem PySem.Spec PyProof.Rows L2
theorem sc__law_parts : FnScope N__law_parts ["deck", "many"] (defScope s__law_parts) := ⟨rfl, rfl, rfl, nd__law_parts, rfl, by decide +kernel, by decide +kernel⟩
theorem ok__law_parts {G : Gx} {mg : Str → Option Value} {base : Heap} (T : Txt G.K mg) (h__law_do_clash : Dfn G.P G.w G.K mg base "_law_do_clash" ["one", "other"] 2 (sp__law_do_clash G)) (h__law_draw : Dfn G.P G.w G.K mg base "_law_draw" ["deck", "many"] 1 (sp__law_draw G)) (h__law_entry : Dfn G.P G.w G.K mg base "_law_entry" ["deck", "names", "bases", "constructors"] 4 (sp__law_entry G)) (h__law_names : Dfn G.P G.w G.K mg base "_law_names" ["deck", "many"] 3 (sp__law_names G)) (h__law_pick : Dfn G.P G.w G.K mg base "_law_pick" ["deck", "some"] 2 (sp__law_pick G))
    (law : ∀ (B : Addr → Prop) (H : Hp) (ds : List D) (Q0 : D → Prop), ds.length = 2 → F__law_parts ds Q0 → WS ⟨G, B, H⟩ (t__law_parts G) (ent 11 ds) { nx := fun _ => Q0 .non, rt := Q0 }) : Dfn G.P G.w G.K mg base "_law_parts" ["deck", "many"] 5 (sp__law_parts G) := by
  obtain ⟨fd, F, hm⟩ := T.d__law_parts
  refine ⟨_, fd, hm, F.kp, F.bindsN (fun _ _ _ _ _ _ us hl => match us, hl with | [_, _], _ => rfl), F.ok sc__law_parts spD_len (fun cdv A outer s H vs Q E hr h => ⟨t__law_parts G, PSs.nox ?_, body_of (N := N__law_parts) (n := 2) (by decide) law h⟩)⟩
  exact (pss_cons (ps_set (i := 2) nd__law_parts rfl (Or.inl rfl) (pe_callD h__law_names (hr.mono (by decide)) (pa_cons (pv 0) (pa_cons pe_int pa_nil))))
      (pss_cons (ps_asg (pe_tup (pa_cons (pe_callTy call_tuple_of (by rfl) T.free_tuple (by decide +kernel) (pa_cons (pe_callB (cr_sortedD hr.units) (by rfl) T.free_sorted (by decide +kernel) (pa_cons (pe_slice sl_U (pv 2) po_none (po_some (pe_op op_addU pe_int (pe_callD h__law_draw (hr.mono (by decide)) (pa_cons (pv 0) (pa_cons pe_int pa_nil)))))) pa_nil)) pa_nil)) (pa_cons (pe_callTy call_tuple_of (by rfl) T.free_tuple (by decide +kernel) (pa_cons (pe_callB (cr_sortedD hr.units) (by rfl) T.free_sorted (by decide +kernel) (pa_cons (pe_slice sl_U (pv 2) (po_some pe_int) (po_some (pe_op op_addU pe_int (pe_callD h__law_draw (hr.mono (by decide)) (pa_cons (pv 0) (pa_cons pe_int pa_nil)))))) pa_nil)) pa_nil)) pa_nil))) (pg_tup rfl (pgs_cons (pg_name (i := 3) nd__law_parts rfl (Or.inr rfl)) (pgs_cons (pg_name (i := 4) nd__law_parts rfl (Or.inl rfl)) pgs_nil))))
      (pss_cons (ps_set (i := 5) nd__law_parts rfl (Or.inl rfl) (pe_lst pa_nil))
      (pss_cons (ps_for PassesOwn.never rfl (pi_range1 (by rfl) T.free_range (pa_cons (pv 1) pa_nil)) (pg_name (i := 6) nd__law_parts rfl (Or.inl rfl)) (pss_cons (ps_set (i := 7) nd__law_parts rfl (Or.inr rfl) (pe_callD h__law_entry (hr.mono (by decide)) (pa_cons (pv 0) (pa_cons (pe_slice sl_U (pv 2) (po_some pe_int) (po_some pe_int)) (pa_cons (pv 3) (pa_cons (pv 4) pa_nil))))))
      (pss_one (ps_expr (pe_bm PySem.F.plainAttrs_list PySem.F.slot_list_extend PySem.F.type_list_extend mt_extend (pv 5) (pa_cons (pe_ifExp (pt_cmpR (op_eqD hr.units) (pe_lc (own := [("one", 10)]) (g := (gName 10)) (tt := (tB (tCall (sp__law_do_clash G) [] E0 (tCons (tVar 10) (tCons (tVar 7) tNil))))) rfl nd__law_parts (pi_seq (pv 5)) (blkOk_by (own := [("one", 10)]) (N := N__law_parts) (sc := defScope s__law_parts) (by decide +kernel)) (fun _ _ _ _ _ => (pg_name (i := 10) nd__law_parts rfl (Or.inl rfl))) (fun _ _ _ _ _ => (pts_one (pt_val (pe_callD h__law_do_clash (hr.mono (by decide)) (pa_cons (pv 10) (pa_cons (pv 7) pa_nil)))))) (fun _ _ _ _ _ => pe_int)) (pe_lst pa_nil) (nomark _)) (pe_lst (pa_cons (pv 7) pa_nil)) (pe_lst pa_nil)) pa_nil))))))
      (pss_cons (ps_setLc (i := 8) (own := [("role", 9)]) (g := (gName 9)) (tt := tYes) rfl nd__law_parts rfl rfl (sw_true rfl rfl rfl (by decide +kernel)) (pi_range1 (by rfl) T.free_range (pa_cons pe_int pa_nil)) (blkOk_by (own := [("role", 9)]) (N := N__law_parts) (sc := defScope s__law_parts) (by decide +kernel)) (fun _ _ _ _ _ => (pg_name (i := 9) nd__law_parts rfl (Or.inl rfl))) (fun _ _ _ _ _ => pts_nil) (fun _ _ _ _ _ => (pe_callD h__law_pick (hr.mono (by decide)) (pa_cons (pv 0) (pa_cons (pe_op op_addU (pe_callTy call_list_of (by rfl) T.free_list (by decide +kernel) (pa_cons (pv 3) pa_nil)) (pe_lst (pa_cons pe_non pa_nil))) pa_nil)))))
      (pss_one (ps_ret (pe_disp (pps_cons pe_str (pv 3) (pps_cons pe_str (pv 4) (pps_cons pe_str (pe_callTy call_tuple_of (by rfl) T.free_tuple (by decide +kernel) (pa_cons (pe_callB (cr_sortedD hr.units) (by rfl) T.free_sorted (by decide +kernel) (pa_cons (pv 5) pa_nil)) pa_nil)) (pps_cons pe_str (pv 8) (pps_cons pe_str (pv 2) pps_nil))))) (by rfl) (by rfl) (fun z => by cases z) (by decide)))))))))
end Sw
end

section
set_option Elab.async false
set_option autoImplicit false
set_option linter.all false
set_option maxRecDepth 100000
set_option maxHeartbeats 4000000
namespace Sw
open PySem PySem.Spec PyProof.Rows L2
theorem sc_is_name : FnScope N_is_name ["thing"] (defScope s_is_name) := ⟨rfl, rfl, rfl, nd_is_name, rfl, by decide +kernel, by decide +kernel⟩
theorem ok_is_name {G : Gx} {mg : Str → Option Value} {base : Heap} (T : Txt G.K mg) 
    (law : ∀ (B : Addr → Prop) (H : Hp) (ds : List D) (Q0 : D → Prop), ds.length = 1 → F_is_name ds Q0 → WS ⟨G, B, H⟩ (t_is_name G) (ent 2 ds) { nx := fun _ => Q0 .non, rt := Q0 }) : Dfn G.P G.w G.K mg base "is_name" ["thing"] 1 (sp_is_name G) := by
  obtain ⟨fd, F, hm⟩ := T.d_is_name
  refine ⟨_, fd, hm, F.kp, F.bindsN (fun _ _ _ _ _ _ us hl => match us, hl with | [_], _ => rfl), F.ok sc_is_name spD_len (fun cdv A outer s H vs Q E hr h => ⟨t_is_name G, PSs.nox ?_, body_of (N := N_is_name) (n := 1) (by decide) law h⟩)⟩
  exact (pss_cons (ps_if (PW.pt (pw_or (pt_not (pt_val (pe_callB call_isi (by rfl) T.free_isinstance (by decide +kernel) (pa_cons (pv 0) (pa_cons (pe_bltn (by rfl) T.free_str (by decide +kernel) rfl) pa_nil))))) (pw_or1 (pt_not (pt_chain op_leU op_leU pe_int (pe_callB call_len (by rfl) T.free_len (by decide +kernel) (pa_cons (pv 0) pa_nil)) (pe_cst T.c_LONGEST_NAME)))))) (pss_one (ps_ret pe_bl)) pss_nil)
      (pss_one (ps_ret (pe_callB (cr_all rfl) (by rfl) T.free_all (by decide +kernel) (pa_cons (pe_lc (own := [("sign", 1)]) (g := (gName 1)) (tt := tYes) rfl nd_is_name (pi_str (pv 0)) (blkOk_by (own := [("sign", 1)]) (N := N_is_name) (sc := defScope s_is_name) (by decide +kernel)) (fun _ _ _ _ _ => (pg_name (i := 1) nd_is_name rfl (Or.inl rfl))) (fun _ _ _ _ _ => pts_nil) (fun _ _ _ _ _ => (pe_cmpR (op_inU (hin hr)) (pv 1) (pe_cst T.c_LETTERS) rfl))) pa_nil)))))

theorem sc_has_hole : FnScope N_has_hole ["pattern"] (defScope s_has_hole) := ⟨rfl, rfl, rfl, nd_has_hole, rfl, by decide +kernel, by decide +kernel⟩
theorem ok_has_hole {G : Gx} {mg : Str → Option Value} {base : Heap} (T : Txt G.K mg) 
    (law : ∀ (B : Addr → Prop) (H : Hp) (ds : List D) (Q0 : D → Prop), ds.length = 1 → F_has_hole ds Q0 → WS ⟨G, B, H⟩ (t_has_hole G) (ent 1 ds) { nx := fun _ => Q0 .non, rt := Q0 }) : Dfn G.P G.w G.K mg base "has_hole" ["pattern"] 1 (sp_has_hole G) := by
  obtain ⟨fd, F, hm⟩ := T.d_has_hole
  refine ⟨_, fd, hm, F.kp, F.bindsN (fun _ _ _ _ _ _ us hl => match us, hl with | [_], _ => rfl), F.ok sc_has_hole spD_len (fun cdv A outer s H vs Q E hr h => ⟨t_has_hole G, PSs.nox ?_, body_of (N := N_has_hole) (n := 1) (by decide) law h⟩)⟩
  exact (pss_one (ps_ret (pe_and (pe_callB call_isi (by rfl) T.free_isinstance (by decide +kernel) (pa_cons (pe_ix ix_seq (pv 0) (pe_un un_neg pe_int) (fun _ _ => rfl)) (pa_cons (pe_bltn (by rfl) T.free_str (by decide +kernel) rfl) pa_nil))) (pe_one (pe_cmpR (op_eqD hr.units) (pe_ix ix_seq (pv 0) (pe_un un_neg pe_int) (fun _ _ => rfl)) (pe_cst T.c_HOLE) (nomark _))))))

theorem sc_is_pattern : FnScope N_is_pattern ["thing"] (defScope s_is_pattern) := ⟨rfl, rfl, rfl, nd_is_pattern, rfl, by decide +kernel, by decide +kernel⟩
theorem ok_is_pattern {G : Gx} {mg : Str → Option Value} {base : Heap} (T : Txt G.K mg) (h_has_hole : Dfn G.P G.w G.K mg base "has_hole" ["pattern"] 1 (sp_has_hole G)) (h_is_name : Dfn G.P G.w G.K mg base "is_name" ["thing"] 1 (sp_is_name G))
    (law : ∀ (B : Addr → Prop) (H : Hp) (ds : List D) (Q0 : D → Prop), ds.length = 1 → F_is_pattern ds Q0 → WS ⟨G, B, H⟩ (t_is_pattern G) (ent 2 ds) { nx := fun _ => Q0 .non, rt := Q0 }) : Dfn G.P G.w G.K mg base "is_pattern" ["thing"] 2 (sp_is_pattern G) := by
  obtain ⟨fd, F, hm⟩ := T.d_is_pattern
  refine ⟨_, fd, hm, F.kp, F.bindsN (fun _ _ _ _ _ _ us hl => match us, hl with | [_], _ => rfl), F.ok sc_is_pattern spD_len (fun cdv A outer s H vs Q E hr h => ⟨t_is_pattern G, PSs.nox ?_, body_of (N := N_is_pattern) (n := 1) (by decide) law h⟩)⟩
  exact (pss_cons (ps_if (PW.pt (pw_or (pt_not (pt_val (pe_callB call_isi (by rfl) T.free_isinstance (by decide +kernel) (pa_cons (pv 0) (pa_cons (pe_bltn (by rfl) T.free_tuple (by decide +kernel) rfl) pa_nil))))) (pw_or (pt_cmpR (op_eqD hr.units) (pv 0) (pe_tup pa_nil) (nomark _)) (pw_or1 (pt_not (pt_val (pe_callB (cr_all rfl) (by rfl) T.free_all (by decide +kernel) (pa_cons (pe_lc (own := [("part", 1)]) (g := (gName 1)) (tt := tYes) rfl nd_is_pattern (pi_seq (pe_slice sl_U (pv 0) po_none (po_some (pe_un un_neg pe_int)))) (blkOk_by (own := [("part", 1)]) (N := N_is_pattern) (sc := defScope s_is_pattern) (by decide +kernel)) (fun _ _ _ _ _ => (pg_name (i := 1) nd_is_pattern rfl (Or.inl rfl))) (fun _ _ _ _ _ => pts_nil) (fun _ _ _ _ _ => (pe_callD h_is_name (hr.mono (by decide)) (pa_cons (pv 1) pa_nil)))) pa_nil)))))))) (pss_one (ps_ret pe_bl)) pss_nil)
      (pss_one (ps_ret (pe_or (pe_callD h_is_name (hr.mono (by decide)) (pa_cons (pe_ix ix_seq (pv 0) (pe_un un_neg pe_int) (fun _ _ => rfl)) pa_nil)) (pe_one (pe_callD h_has_hole (hr.mono (by decide)) (pa_cons (pv 0) pa_nil)))))))

theorem sc_is_name_token : FnScope N_is_name_token ["thing"] (defScope s_is_name_token) := ⟨rfl, rfl, rfl, nd_is_name_token, rfl, by decide +kernel, by decide +kernel⟩
theorem ok_is_name_token {G : Gx} {mg : Str → Option Value} {base : Heap} (T : Txt G.K mg) (h_is_name : Dfn G.P G.w G.K mg base "is_name" ["thing"] 1 (sp_is_name G))
    (law : ∀ (B : Addr → Prop) (H : Hp) (ds : List D) (Q0 : D → Prop), ds.length = 1 → F_is_name_token ds Q0 → WS ⟨G, B, H⟩ (t_is_name_token G) (ent 1 ds) { nx := fun _ => Q0 .non, rt := Q0 }) : Dfn G.P G.w G.K mg base "is_name_token" ["thing"] 2 (sp_is_name_token G) := by
  obtain ⟨fd, F, hm⟩ := T.d_is_name_token
  refine ⟨_, fd, hm, F.kp, F.bindsN (fun _ _ _ _ _ _ us hl => match us, hl with | [_], _ => rfl), F.ok sc_is_name_token spD_len (fun cdv A outer s H vs Q E hr h => ⟨t_is_name_token G, PSs.nox ?_, body_of (N := N_is_name_token) (n := 1) (by decide) law h⟩)⟩
  exact (pss_one (ps_ret (pe_and (pe_callD h_is_name (hr.mono (by decide)) (pa_cons (pv 0) pa_nil)) (pe_one (pe_cmpR (op_notInU (hin hr)) (pv 0) (pe_cst T.c_WORDS) rfl)))))

theorem sc_has_parts_of : FnScope N_has_parts_of ["pattern", "bases", "constructors"] (defScope s_has_parts_of) := ⟨rfl, rfl, rfl, nd_has_parts_of, rfl, by decide +kernel, by decide +kernel⟩
theorem ok_has_parts_of {G : Gx} {mg : Str → Option Value} {base : Heap} (T : Txt G.K mg) 
    (law : ∀ (B : Addr → Prop) (H : Hp) (ds : List D) (Q0 : D → Prop), ds.length = 3 → F_has_parts_of ds Q0 → WS ⟨G, B, H⟩ (t_has_parts_of G) (ent 4 ds) { nx := fun _ => Q0 .non, rt := Q0 }) : Dfn G.P G.w G.K mg base "has_parts_of" ["pattern", "bases", "constructors"] 1 (sp_has_parts_of G) := by
  obtain ⟨fd, F, hm⟩ := T.d_has_parts_of
  refine ⟨_, fd, hm, F.kp, F.bindsN (fun _ _ _ _ _ _ us hl => match us, hl with | [_, _, _], _ => rfl), F.ok sc_has_parts_of spD_len (fun cdv A outer s H vs Q E hr h => ⟨t_has_parts_of G, PSs.nox ?_, body_of (N := N_has_parts_of) (n := 3) (by decide) law h⟩)⟩
  exact (pss_cons (ps_if (pt_not (pt_val (pe_callB (cr_all rfl) (by rfl) T.free_all (by decide +kernel) (pa_cons (pe_lc (own := [("name", 3)]) (g := (gName 3)) (tt := tYes) rfl nd_has_parts_of (pi_seq (pe_slice sl_U (pv 0) po_none (po_some (pe_un un_neg pe_int)))) (blkOk_by (own := [("name", 3)]) (N := N_has_parts_of) (sc := defScope s_has_parts_of) (by decide +kernel)) (fun _ _ _ _ _ => (pg_name (i := 3) nd_has_parts_of rfl (Or.inl rfl))) (fun _ _ _ _ _ => pts_nil) (fun _ _ _ _ _ => (pe_cmpR (op_inU (hin hr)) (pv 3) (pv 2) rfl))) pa_nil)))) (pss_one (ps_ret pe_bl)) pss_nil)
      (pss_one (ps_ret (pe_or (pe_cmpR (op_eqD hr.units) (pe_ix ix_seq (pv 0) (pe_un un_neg pe_int) (fun _ _ => rfl)) (pe_cst T.c_TAIL) (nomark _)) (pe_one (pe_cmpR (op_inU (hin hr)) (pe_ix ix_seq (pv 0) (pe_un un_neg pe_int) (fun _ _ => rfl)) (pv 1) rfl))))))

theorem sc_is_entry_name : FnScope N_is_entry_name ["sort", "thing"] (defScope s_is_entry_name) := ⟨rfl, rfl, rfl, nd_is_entry_name, rfl, by decide +kernel, by decide +kernel⟩
theorem ok_is_entry_name {G : Gx} {mg : Str → Option Value} {base : Heap} (T : Txt G.K mg) (h_is_name_token : Dfn G.P G.w G.K mg base "is_name_token" ["thing"] 2 (sp_is_name_token G))
    (law : ∀ (B : Addr → Prop) (H : Hp) (ds : List D) (Q0 : D → Prop), ds.length = 2 → F_is_entry_name ds Q0 → WS ⟨G, B, H⟩ (t_is_entry_name G) (ent 2 ds) { nx := fun _ => Q0 .non, rt := Q0 }) : Dfn G.P G.w G.K mg base "is_entry_name" ["sort", "thing"] 3 (sp_is_entry_name G) := by
  obtain ⟨fd, F, hm⟩ := T.d_is_entry_name
  refine ⟨_, fd, hm, F.kp, F.bindsN (fun _ _ _ _ _ _ us hl => match us, hl with | [_, _], _ => rfl), F.ok sc_is_entry_name spD_len (fun cdv A outer s H vs Q E hr h => ⟨t_is_entry_name G, PSs.nox ?_, body_of (N := N_is_entry_name) (n := 2) (by decide) law h⟩)⟩
  exact (pss_cons (ps_if (pt_cmpR (op_eqD hr.units) (pv 0) (pe_cst T.c_OPERATOR) (nomark _)) (pss_one (ps_ret (pe_and (pe_callB call_isi (by rfl) T.free_isinstance (by decide +kernel) (pa_cons (pv 1) (pa_cons (pe_bltn (by rfl) T.free_str (by decide +kernel) rfl) pa_nil))) (pe_one (pe_cmpR (op_inU (hin hr)) (pv 1) (pe_cst T.c_OPERATORS) rfl))))) pss_nil)
      (pss_one (ps_ret (pe_callD h_is_name_token (hr.mono (by decide)) (pa_cons (pv 1) pa_nil)))))

theorem sc_fits_number : FnScope N_fits_number ["sort", "many"] (defScope s_fits_number) := ⟨rfl, rfl, rfl, nd_fits_number, rfl, by decide +kernel, by decide +kernel⟩
theorem ok_fits_number {G : Gx} {mg : Str → Option Value} {base : Heap} (T : Txt G.K mg) 
    (law : ∀ (B : Addr → Prop) (H : Hp) (ds : List D) (Q0 : D → Prop), ds.length = 2 → F_fits_number ds Q0 → WS ⟨G, B, H⟩ (t_fits_number G) (ent 2 ds) { nx := fun _ => Q0 .non, rt := Q0 }) : Dfn G.P G.w G.K mg base "fits_number" ["sort", "many"] 1 (sp_fits_number G) := by
  obtain ⟨fd, F, hm⟩ := T.d_fits_number
  refine ⟨_, fd, hm, F.kp, F.bindsN (fun _ _ _ _ _ _ us hl => match us, hl with | [_, _], _ => rfl), F.ok sc_fits_number spD_len (fun cdv A outer s H vs Q E hr h => ⟨t_fits_number G, PSs.nox ?_, body_of (N := N_fits_number) (n := 2) (by decide) law h⟩)⟩
  exact (pss_cons (ps_if (pt_cmpR (op_eqD hr.units) (pv 0) (pe_cst T.c_OPERATOR) (nomark _)) (pss_one (ps_ret (pe_cmpR (op_eqD hr.units) (pv 1) pe_int (nomark _)))) pss_nil)
      (pss_one (ps_ret (pe_and (pe_cmpR op_leU (pv 1) (pe_cst T.c_MOST_PARAMETERS) (nomark _)) (pe_one (pe_or (pe_cmpR op_gtU (pv 1) pe_int (nomark _)) (pe_one (pe_cmpR (op_eqD hr.units) (pv 0) (pe_cst T.c_FUNCTION) (nomark _)))))))))

theorem sc_is_entry : FnScope N_is_entry ["thing"] (defScope s_is_entry) := ⟨rfl, rfl, rfl, nd_is_entry, rfl, by decide +kernel, by decide +kernel⟩
theorem ok_is_entry {G : Gx} {mg : Str → Option Value} {base : Heap} (T : Txt G.K mg) (h_fits_number : Dfn G.P G.w G.K mg base "fits_number" ["sort", "many"] 1 (sp_fits_number G)) (h_is_entry_name : Dfn G.P G.w G.K mg base "is_entry_name" ["sort", "thing"] 3 (sp_is_entry_name G)) (h_is_pattern : Dfn G.P G.w G.K mg base "is_pattern" ["thing"] 2 (sp_is_pattern G))
    (law : ∀ (B : Addr → Prop) (H : Hp) (ds : List D) (Q0 : D → Prop), ds.length = 1 → F_is_entry ds Q0 → WS ⟨G, B, H⟩ (t_is_entry G) (ent 6 ds) { nx := fun _ => Q0 .non, rt := Q0 }) : Dfn G.P G.w G.K mg base "is_entry" ["thing"] 4 (sp_is_entry G) := by
  obtain ⟨fd, F, hm⟩ := T.d_is_entry
  refine ⟨_, fd, hm, F.kp, F.bindsN (fun _ _ _ _ _ _ us hl => match us, hl with | [_], _ => rfl), F.ok sc_is_entry spD_len (fun cdv A outer s H vs Q E hr h => ⟨t_is_entry G, PSs.nox ?_, body_of (N := N_is_entry) (n := 1) (by decide) law h⟩)⟩
  exact (pss_cons (ps_if (PW.pt (pw_or (pt_not (pt_val (pe_callB call_isi (by rfl) T.free_isinstance (by decide +kernel) (pa_cons (pv 0) (pa_cons (pe_bltn (by rfl) T.free_tuple (by decide +kernel) rfl) pa_nil))))) (pw_or (pt_cmpR (op_neD hr.units) (pe_callB call_len (by rfl) T.free_len (by decide +kernel) (pa_cons (pv 0) pa_nil)) pe_int (nomark _)) (pw_or (pt_not (pt_val (pe_callB call_isi (by rfl) T.free_isinstance (by decide +kernel) (pa_cons (pe_ix ix_seq (pv 0) pe_int (fun _ _ => rfl)) (pa_cons (pe_bltn (by rfl) T.free_str (by decide +kernel) rfl) pa_nil))))) (pw_or1 (pt_cmpR (op_notInU (hin hr)) (pe_ix ix_seq (pv 0) pe_int (fun _ _ => rfl)) (pe_cst T.c_SORTS) rfl)))))) (pss_one (ps_ret pe_bl)) pss_nil)
      (pss_cons (ps_asg (pv 0) (pg_tup rfl (pgs_cons (pg_name (i := 1) nd_is_entry rfl (Or.inl rfl)) (pgs_cons (pg_name (i := 2) nd_is_entry rfl (Or.inl rfl)) (pgs_cons (pg_name (i := 3) nd_is_entry rfl (Or.inl rfl)) (pgs_cons (pg_name (i := 4) nd_is_entry rfl (Or.inl rfl)) pgs_nil))))))
      (pss_cons (ps_if (PW.pt (pw_or (pt_not (pt_val (pe_callD h_is_entry_name (hr.mono (by decide)) (pa_cons (pv 1) (pa_cons (pv 2) pa_nil))))) (pw_or (pt_not (pt_val (pe_callB call_isi (by rfl) T.free_isinstance (by decide +kernel) (pa_cons (pv 3) (pa_cons (pe_bltn (by rfl) T.free_tuple (by decide +kernel) rfl) pa_nil))))) (pw_or1 (pt_not (pt_val (pe_callD h_fits_number (hr.mono (by decide)) (pa_cons (pv 1) (pa_cons (pe_callB call_len (by rfl) T.free_len (by decide +kernel) (pa_cons (pv 3) pa_nil)) pa_nil))))))))) (pss_one (ps_ret pe_bl)) pss_nil)
      (pss_cons (ps_if (pt_not (pt_val (pe_callB (cr_all rfl) (by rfl) T.free_all (by decide +kernel) (pa_cons (pe_lc (own := [("pattern", 5)]) (g := (gName 5)) (tt := tYes) rfl nd_is_entry (pi_seq (pe_tup (StX.pa_star (pv 3) (pa_cons (pv 4) pa_nil)))) (blkOk_by (own := [("pattern", 5)]) (N := N_is_entry) (sc := defScope s_is_entry) (by decide +kernel)) (fun _ _ _ _ _ => (pg_name (i := 5) nd_is_entry rfl (Or.inl rfl))) (fun _ _ _ _ _ => pts_nil) (fun _ _ _ _ _ => (pe_callD h_is_pattern (hr.mono (by decide)) (pa_cons (pv 5) pa_nil)))) pa_nil)))) (pss_one (ps_ret pe_bl)) pss_nil)
      (pss_one (ps_ret (pe_or (pe_cmpR (op_neD hr.units) (pe_ix ix_seq (pv 4) (pe_un un_neg pe_int) (fun _ _ => rfl)) (pe_cst T.c_TAIL) (nomark _)) (pe_one (pe_callB (cr_any rfl) (by rfl) T.free_any (by decide +kernel) (pa_cons (pe_lc (own := [("pattern", 5)]) (g := (gName 5)) (tt := tYes) rfl nd_is_entry (pi_seq (pv 3)) (blkOk_by (own := [("pattern", 5)]) (N := N_is_entry) (sc := defScope s_is_entry) (by decide +kernel)) (fun _ _ _ _ _ => (pg_name (i := 5) nd_is_entry rfl (Or.inl rfl))) (fun _ _ _ _ _ => pts_nil) (fun _ _ _ _ _ => (pe_cmpR (op_eqD hr.units) (pe_ix ix_seq (pv 5) (pe_un un_neg pe_int) (fun _ _ => rfl)) (pe_cst T.c_TAIL) (nomark _)))) pa_nil))))))))))

theorem sc_is_entry_of : FnScope N_is_entry_of ["thing", "bases", "constructors"] (defScope s_is_entry_of) := ⟨rfl, rfl, rfl, nd_is_entry_of, rfl, by decide +kernel, by decide +kernel⟩
theorem ok_is_entry_of {G : Gx} {mg : Str → Option Value} {base : Heap} (T : Txt G.K mg) (h_has_parts_of : Dfn G.P G.w G.K mg base "has_parts_of" ["pattern", "bases", "constructors"] 1 (sp_has_parts_of G)) (h_is_entry : Dfn G.P G.w G.K mg base "is_entry" ["thing"] 4 (sp_is_entry G))
    (law : ∀ (B : Addr → Prop) (H : Hp) (ds : List D) (Q0 : D → Prop), ds.length = 3 → F_is_entry_of ds Q0 → WS ⟨G, B, H⟩ (t_is_entry_of G) (ent 4 ds) { nx := fun _ => Q0 .non, rt := Q0 }) : Dfn G.P G.w G.K mg base "is_entry_of" ["thing", "bases", "constructors"] 5 (sp_is_entry_of G) := by
  obtain ⟨fd, F, hm⟩ := T.d_is_entry_of
  refine ⟨_, fd, hm, F.kp, F.bindsN (fun _ _ _ _ _ _ us hl => match us, hl with | [_, _, _], _ => rfl), F.ok sc_is_entry_of spD_len (fun cdv A outer s H vs Q E hr h => ⟨t_is_entry_of G, PSs.nox ?_, body_of (N := N_is_entry_of) (n := 3) (by decide) law h⟩)⟩
  exact (pss_cons (ps_if (pt_not (pt_val (pe_callD h_is_entry (hr.mono (by decide)) (pa_cons (pv 0) pa_nil)))) (pss_one (ps_ret pe_bl)) pss_nil)
      (pss_one (ps_ret (pe_callB (cr_all rfl) (by rfl) T.free_all (by decide +kernel) (pa_cons (pe_lc (own := [("pattern", 3)]) (g := (gName 3)) (tt := tYes) rfl nd_is_entry_of (pi_seq (pe_tup (StX.pa_star (pe_ix ix_seq (pv 0) pe_int (fun _ _ => rfl)) (pa_cons (pe_ix ix_seq (pv 0) pe_int (fun _ _ => rfl)) pa_nil)))) (blkOk_by (own := [("pattern", 3)]) (N := N_is_entry_of) (sc := defScope s_is_entry_of) (by decide +kernel)) (fun _ _ _ _ _ => (pg_name (i := 3) nd_is_entry_of rfl (Or.inl rfl))) (fun _ _ _ _ _ => pts_nil) (fun _ _ _ _ _ => (pe_callD h_has_parts_of (hr.mono (by decide)) (pa_cons (pv 3) (pa_cons (pv 1) (pa_cons (pv 2) pa_nil)))))) pa_nil)))))

theorem sc_do_clash : FnScope N_do_clash ["one", "other"] (defScope s_do_clash) := ⟨rfl, rfl, rfl, nd_do_clash, rfl, by decide +kernel, by decide +kernel⟩
theorem ok_do_clash {G : Gx} {mg : Str → Option Value} {base : Heap} (T : Txt G.K mg) (h_put : Dfn G.P G.w G.K mg base "put" ["pattern", "tail"] 1 (sp_put G)) (h_unified_all : Dfn G.P G.w G.K mg base "unified_all" ["ones", "others", "bound"] 4 (sp_unified_all G))
    (law : ∀ (B : Addr → Prop) (H : Hp) (ds : List D) (Q0 : D → Prop), ds.length = 2 → F_do_clash ds Q0 → WS ⟨G, B, H⟩ (t_do_clash G) (ent 5 ds) { nx := fun _ => Q0 .non, rt := Q0 }) : Dfn G.P G.w G.K mg base "do_clash" ["one", "other"] 5 (sp_do_clash G) := by
  obtain ⟨fd, F, hm⟩ := T.d_do_clash
  refine ⟨_, fd, hm, F.kp, F.bindsN (fun _ _ _ _ _ _ us hl => match us, hl with | [_, _], _ => rfl), F.ok sc_do_clash spD_len (fun cdv A outer s H vs Q E hr h => ⟨t_do_clash G, PSs.nox ?_, body_of (N := N_do_clash) (n := 2) (by decide) law h⟩)⟩
  exact (pss_cons (ps_if (PW.pt (pw_or (pt_cmpR (op_neD hr.units) (pe_slice sl_U (pv 0) po_none (po_some pe_int)) (pe_slice sl_U (pv 1) po_none (po_some pe_int)) (nomark _)) (pw_or1 (pt_cmpR (op_neD hr.units) (pe_callB call_len (by rfl) T.free_len (by decide +kernel) (pa_cons (pe_ix ix_seq (pv 0) pe_int (fun _ _ => rfl)) pa_nil)) (pe_callB call_len (by rfl) T.free_len (by decide +kernel) (pa_cons (pe_ix ix_seq (pv 1) pe_int (fun _ _ => rfl)) pa_nil)) (nomark _))))) (pss_one (ps_ret pe_bl)) pss_nil)
      (pss_cons (ps_par (i := 2) (j := 3) rfl nd_do_clash rfl rfl (by decide) rfl rfl (pa_cons (pe_lc (own := [("pattern", 4)]) (g := (gName 4)) (tt := tYes) rfl nd_do_clash (pi_seq (pe_ix ix_seq (pv 0) pe_int (fun _ _ => rfl))) (blkOk_by (own := [("pattern", 4)]) (N := N_do_clash) (sc := defScope s_do_clash) (by decide +kernel)) (fun _ _ _ _ _ => (pg_name (i := 4) nd_do_clash rfl (Or.inl rfl))) (fun _ _ _ _ _ => pts_nil) (fun _ _ _ _ _ => (pe_callD h_put (hr.mono (by decide)) (pa_cons (pv 4) (pa_cons (pe_tup (pa_cons pe_int pa_nil)) pa_nil))))) (pa_cons (pe_lc (own := [("pattern", 4)]) (g := (gName 4)) (tt := tYes) rfl nd_do_clash (pi_seq (pe_ix ix_seq (pv 1) pe_int (fun _ _ => rfl))) (blkOk_by (own := [("pattern", 4)]) (N := N_do_clash) (sc := defScope s_do_clash) (by decide +kernel)) (fun _ _ _ _ _ => (pg_name (i := 4) nd_do_clash rfl (Or.inl rfl))) (fun _ _ _ _ _ => pts_nil) (fun _ _ _ _ _ => (pe_callD h_put (hr.mono (by decide)) (pa_cons (pv 4) (pa_cons (pe_tup (pa_cons pe_int pa_nil)) pa_nil))))) pa_nil)) (by rfl))
      (pss_one (ps_ret (pe_cmpR op_notN1 (pe_callD h_unified_all (hr.mono (by decide)) (pa_cons (pv 2) (pa_cons (pv 3) (pa_cons pe_dnewK pa_nil)))) pe_non (nomark _))))))

theorem sc_clash_with : FnScope N_clash_with ["entry", "others"] (defScope s_clash_with) := ⟨rfl, rfl, rfl, nd_clash_with, rfl, by decide +kernel, by decide +kernel⟩
theorem ok_clash_with {G : Gx} {mg : Str → Option Value} {base : Heap} (T : Txt G.K mg) (h_do_clash : Dfn G.P G.w G.K mg base "do_clash" ["one", "other"] 5 (sp_do_clash G))
    (law : ∀ (B : Addr → Prop) (H : Hp) (ds : List D) (Q0 : D → Prop), ds.length = 2 → F_clash_with ds Q0 → WS ⟨G, B, H⟩ (t_clash_with G) (ent 3 ds) { nx := fun _ => Q0 .non, rt := Q0 }) : Dfn G.P G.w G.K mg base "clash_with" ["entry", "others"] 6 (sp_clash_with G) := by
  obtain ⟨fd, F, hm⟩ := T.d_clash_with
  refine ⟨_, fd, hm, F.kp, F.bindsN (fun _ _ _ _ _ _ us hl => match us, hl with | [_, _], _ => rfl), F.ok sc_clash_with spD_len (fun cdv A outer s H vs Q E hr h => ⟨t_clash_with G, PSs.nox ?_, body_of (N := N_clash_with) (n := 2) (by decide) law h⟩)⟩
  exact (pss_cons (ps_for PassesOwn.never rfl (pi_seq (pv 1)) (pg_name (i := 2) nd_clash_with rfl (Or.inl rfl)) (pss_one (ps_if (pt_val (pe_callD h_do_clash (hr.mono (by decide)) (pa_cons (pv 2) (pa_cons (pv 0) pa_nil)))) (pss_one (ps_ret (pv 2))) pss_nil)))
      (pss_one (ps_ret pe_non)))
end Sw
end

section
set_option Elab.async false
set_option autoImplicit false
set_option linter.all false
set_option maxRecDepth 100000
set_option maxHeartbeats 4000000
namespace Sw
open PySem PySem.Spec PyProof.Rows L2
theorem sc_are_names : FnScope N_are_names ["thing"] (defScope s_are_names) := ⟨rfl, rfl, rfl, nd_are_names, rfl, by decide +kernel, by decide +kernel⟩
theorem ok_are_names {G : Gx} {mg : Str → Option Value} {base : Heap} (T : Txt G.K mg) (h_is_name : Dfn G.P G.w G.K mg base "is_name" ["thing"] 1 (sp_is_name G))
    (law : ∀ (B : Addr → Prop) (H : Hp) (ds : List D) (Q0 : D → Prop), ds.length = 1 → F_are_names ds Q0 → WS ⟨G, B, H⟩ (t_are_names G) (ent 4 ds) { nx := fun _ => Q0 .non, rt := Q0 }) : Dfn G.P G.w G.K mg base "are_names" ["thing"] 2 (sp_are_names G) := by
  obtain ⟨fd, F, hm⟩ := T.d_are_names
  refine ⟨_, fd, hm, F.kp, F.bindsN (fun _ _ _ _ _ _ us hl => match us, hl with | [_], _ => rfl), F.ok sc_are_names spD_len (fun cdv A outer s H vs Q E hr h => ⟨t_are_names G, PSs.nox ?_, body_of (N := N_are_names) (n := 1) (by decide) law h⟩)⟩
  exact (pss_cons (ps_if (PW.pt (pw_or (pt_not (pt_val (pe_callB call_isi (by rfl) T.free_isinstance (by decide +kernel) (pa_cons (pv 0) (pa_cons (pe_bltn (by rfl) T.free_tuple (by decide +kernel) rfl) pa_nil))))) (pw_or1 (pt_not (pt_val (pe_callB (cr_all rfl) (by rfl) T.free_all (by decide +kernel) (pa_cons (pe_lc (own := [("name", 3)]) (g := (gName 3)) (tt := tYes) rfl nd_are_names (pi_seq (pv 0)) (blkOk_by (own := [("name", 3)]) (N := N_are_names) (sc := defScope s_are_names) (by decide +kernel)) (fun _ _ _ _ _ => (pg_name (i := 3) nd_are_names rfl (Or.inl rfl))) (fun _ _ _ _ _ => pts_nil) (fun _ _ _ _ _ => (pe_callD h_is_name (hr.mono (by decide)) (pa_cons (pv 3) pa_nil)))) pa_nil))))))) (pss_one (ps_ret pe_bl)) pss_nil)
      (pss_one (ps_ret (pe_callB (cr_all rfl) (by rfl) T.free_all (by decide +kernel) (pa_cons (pe_lc (own := [("one", 1), ("other", 2)]) (g := (gTup G.K 2 (gCons (gName 1) (gCons (gName 2) gNil)))) (tt := tYes) rfl nd_are_names (pi_zipK (by rfl) T.free_zip (pa_cons (pv 0) (pa_cons (pe_slice sl_U (pv 0) (po_some pe_int) po_none) pa_nil))) (blkOk_by (own := [("one", 1), ("other", 2)]) (N := N_are_names) (sc := defScope s_are_names) (by decide +kernel)) (fun _ _ _ _ _ => (pg_tup rfl (pgs_cons (pg_name (i := 1) nd_are_names rfl (Or.inl rfl)) (pgs_cons (pg_name (i := 2) nd_are_names rfl (Or.inl rfl)) pgs_nil)))) (fun _ _ _ _ _ => pts_nil) (fun _ _ _ _ _ => (pe_cmpR (op_ltU hr.units0) (pv 1) (pv 2) (nomark _)))) pa_nil)))))

theorem sc_check_names : FnScope N_check_names ["bases", "constructors"] (defScope s_check_names) := ⟨rfl, rfl, rfl, nd_check_names, rfl, by decide +kernel, by decide +kernel⟩
theorem ok_check_names {G : Gx} {mg : Str → Option Value} {base : Heap} (T : Txt G.K mg) (h_are_names : Dfn G.P G.w G.K mg base "are_names" ["thing"] 2 (sp_are_names G))
    (law : ∀ (B : Addr → Prop) (H : Hp) (ds : List D) (Q0 : D → Prop), ds.length = 2 → F_check_names ds Q0 → WS ⟨G, B, H⟩ (t_check_names G) (ent 3 ds) { nx := fun _ => Q0 .non, rt := Q0 }) : Dfn G.P G.w G.K mg base "check_names" ["bases", "constructors"] 3 (sp_check_names G) := by
  obtain ⟨fd, F, hm⟩ := T.d_check_names
  refine ⟨_, fd, hm, F.kp, F.bindsN (fun _ _ _ _ _ _ us hl => match us, hl with | [_, _], _ => rfl), F.ok sc_check_names spD_len (fun cdv A outer s H vs Q E hr h => ⟨t_check_names G, PSs.nox ?_, body_of (N := N_check_names) (n := 2) (by decide) law h⟩)⟩
  exact (pss_cons (ps_if (PW.pt (pw_or (pt_not (pt_val (pe_callD h_are_names (hr.mono (by decide)) (pa_cons (pv 0) pa_nil)))) (pw_or1 (pt_cmpR (op_eqD hr.units) (pv 0) (pe_tup pa_nil) (nomark _))))) (pss_one ps_never) pss_nil)
      (pss_one (ps_if (PW.pt (pw_or (pt_not (pt_val (pe_callD h_are_names (hr.mono (by decide)) (pa_cons (pv 1) pa_nil)))) (pw_or1 (pt_val (pe_callB (cr_any rfl) (by rfl) T.free_any (by decide +kernel) (pa_cons (pe_lc (own := [("name", 2)]) (g := (gName 2)) (tt := tYes) rfl nd_check_names (pi_seq (pv 1)) (blkOk_by (own := [("name", 2)]) (N := N_check_names) (sc := defScope s_check_names) (by decide +kernel)) (fun _ _ _ _ _ => (pg_name (i := 2) nd_check_names rfl (Or.inl rfl))) (fun _ _ _ _ _ => pts_nil) (fun _ _ _ _ _ => (pe_cmpR (op_inU (hin hr)) (pv 2) (pv 0) rfl))) pa_nil)))))) (pss_one ps_never) pss_nil)))

theorem sc_check_role : FnScope N_check_role ["word", "bases", "thing"] (defScope s_check_role) := ⟨rfl, rfl, rfl, nd_check_role, rfl, by decide +kernel, by decide +kernel⟩
theorem ok_check_role {G : Gx} {mg : Str → Option Value} {base : Heap} (T : Txt G.K mg) 
    (law : ∀ (B : Addr → Prop) (H : Hp) (ds : List D) (Q0 : D → Prop), ds.length = 3 → F_check_role ds Q0 → WS ⟨G, B, H⟩ (t_check_role G) (ent 3 ds) { nx := fun _ => Q0 .non, rt := Q0 }) : Dfn G.P G.w G.K mg base "check_role" ["word", "bases", "thing"] 1 (sp_check_role G) := by
  obtain ⟨fd, F, hm⟩ := T.d_check_role
  refine ⟨_, fd, hm, F.kp, F.bindsN (fun _ _ _ _ _ _ us hl => match us, hl with | [_, _, _], _ => rfl), F.ok sc_check_role spD_len (fun cdv A outer s H vs Q E hr h => ⟨t_check_role G, PSs.nox ?_, body_of (N := N_check_role) (n := 3) (by decide) law h⟩)⟩
  exact (pss_one (ps_if (PW.pt (pw_and (pt_cmpR op_notN1 (pv 2) pe_non (nomark _)) (pw_and1 (PW.pt (pw_or (pt_not (pt_val (pe_callB call_isi (by rfl) T.free_isinstance (by decide +kernel) (pa_cons (pv 2) (pa_cons (pe_bltn (by rfl) T.free_str (by decide +kernel) rfl) pa_nil))))) (pw_or1 (pt_cmpR (op_notInU (hin hr)) (pv 2) (pv 1) rfl))))))) (pss_one ps_never) pss_nil))

theorem sc_check_clashes : FnScope N_check_clashes ["entries"] (defScope s_check_clashes) := ⟨rfl, rfl, rfl, nd_check_clashes, rfl, by decide +kernel, by decide +kernel⟩
theorem ok_check_clashes {G : Gx} {mg : Str → Option Value} {base : Heap} (T : Txt G.K mg) (h_clash_with : Dfn G.P G.w G.K mg base "clash_with" ["entry", "others"] 6 (sp_clash_with G))
    (law : ∀ (B : Addr → Prop) (H : Hp) (ds : List D) (Q0 : D → Prop), ds.length = 1 → F_check_clashes ds Q0 → WS ⟨G, B, H⟩ (t_check_clashes G) (ent 4 ds) { nx := fun _ => Q0 .non, rt := Q0 }) : Dfn G.P G.w G.K mg base "check_clashes" ["entries"] 7 (sp_check_clashes G) := by
  obtain ⟨fd, F, hm⟩ := T.d_check_clashes
  refine ⟨_, fd, hm, F.kp, F.bindsN (fun _ _ _ _ _ _ us hl => match us, hl with | [_], _ => rfl), F.ok sc_check_clashes spD_len (fun cdv A outer s H vs Q E hr h => ⟨t_check_clashes G, PSs.nox ?_, body_of (N := N_check_clashes) (n := 1) (by decide) law h⟩)⟩
  exact (pss_one (ps_for PassesOwn.never rfl (pi_enumT (by rfl) T.free_enumerate (pa_cons (pv 0) pa_nil)) (pg_tup rfl (pgs_cons (pg_name (i := 1) nd_check_clashes rfl (Or.inl rfl)) (pgs_cons (pg_name (i := 2) nd_check_clashes rfl (Or.inl rfl)) pgs_nil))) (pss_cons (ps_set (i := 3) nd_check_clashes rfl (Or.inl rfl) (pe_callD h_clash_with (hr.mono (by decide)) (pa_cons (pv 2) (pa_cons (pe_slice sl_U (pv 0) po_none (po_some (pv 1))) pa_nil))))
      (pss_one (ps_if (pt_cmpR op_notN1 (pv 3) pe_non (nomark _)) (pss_one ps_never) pss_nil)))))

theorem sc_by_names : FnScope N_by_names ["entries"] (defScope s_by_names) := ⟨rfl, rfl, rfl, nd_by_names, rfl, by decide +kernel, by decide +kernel⟩
theorem ok_by_names {G : Gx} {mg : Str → Option Value} {base : Heap} (T : Txt G.K mg) 
    (law : ∀ (B : Addr → Prop) (H : Hp) (ds : List D) (Q0 : D → Prop), ds.length = 1 → F_by_names ds Q0 → WS ⟨G, B, H⟩ (t_by_names G) (ent 3 ds) { nx := fun _ => Q0 .non, rt := Q0 }) : Dfn G.P G.w G.K mg base "by_names" ["entries"] 1 (sp_by_names G) := by
  obtain ⟨fd, F, hm⟩ := T.d_by_names
  refine ⟨_, fd, hm, F.kp, F.bindsN (fun _ _ _ _ _ _ us hl => match us, hl with | [_], _ => rfl), F.ok sc_by_names spD_len (fun cdv A outer s H vs Q E hr h => ⟨t_by_names G, PSs.nox ?_, body_of (N := N_by_names) (n := 1) (by decide) law h⟩)⟩
  exact (pss_one (ps_ret (pe_dcT (own := [("entry", 1)]) (g := (gName 1)) (tk := (tSl (rSlU G.K) (tVar 1) tNoPart (tPart (tC (.int 2))))) (tv := (tCB (rTupU G.K) (tCons (tLc (iSeq G.K (tVar 0)) (gName 2) (tTest (tOp (rEqD G.K) (tSl (rSlU G.K) (tVar 2) tNoPart (tPart (tC (.int 2)))) (tSl (rSlU G.K) (tVar 1) tNoPart (tPart (tC (.int 2)))))) (tVar 2) [2]) tNil))) rfl (hu_of hr) nd_by_names (pi_seq (pv 0)) (blkOk_by (own := [("entry", 1)]) (N := N_by_names) (sc := defScope s_by_names) (by decide +kernel)) (fun _ _ _ _ _ => (pg_name (i := 1) nd_by_names rfl (Or.inr rfl))) (fun _ _ _ _ _ => (pe_slice sl_U (pv 1) po_none (po_some pe_int))) (fun _ _ _ _ _ => (pe_callTy call_tuple_of (by rfl) T.free_tuple (by decide +kernel) (pa_cons (pe_lc (own := [("other", 2)]) (g := (gName 2)) (tt := (tTest (tOp (rEqD G.K) (tSl (rSlU G.K) (tVar 2) tNoPart (tPart (tC (.int 2)))) (tSl (rSlU G.K) (tVar 1) tNoPart (tPart (tC (.int 2))))))) rfl nd_by_names (pi_seq (pv 0)) (blkOk_by (own := [("other", 2)]) (N := N_by_names) (by rfl)) (fun _ _ _ _ _ => (pg_name (i := 2) nd_by_names rfl (Or.inl rfl))) (fun _ _ _ _ _ => (pts_one (pt_cmpR (op_eqD hr.units) (pe_slice sl_U (pv 2) po_none (po_some pe_int)) (pe_slice sl_U (pv 1) po_none (po_some pe_int)) (nomark _)))) (fun _ _ _ _ _ => (pv 2))) pa_nil))) (fun _ => rfl))))

theorem sc_roles_of : FnScope N_roles_of ["library"] (defScope s_roles_of) := ⟨rfl, rfl, rfl, nd_roles_of, rfl, by decide +kernel, by decide +kernel⟩
theorem ok_roles_of {G : Gx} {mg : Str → Option Value} {base : Heap} (T : Txt G.K mg) 
    (law : ∀ (B : Addr → Prop) (H : Hp) (ds : List D) (Q0 : D → Prop), ds.length = 1 → (F_roles_of (lbC G)) ds Q0 → WS ⟨G, B, H⟩ (t_roles_of G) (ent 1 ds) { nx := fun _ => Q0 .non, rt := Q0 }) : Dfn G.P G.w G.K mg base "roles_of" ["library"] 1 (sp_roles_of G) := by
  obtain ⟨fd, F, hm⟩ := T.d_roles_of
  refine ⟨_, fd, hm, F.kp, F.bindsN (fun _ _ _ _ _ _ us hl => match us, hl with | [_], _ => rfl), F.ok sc_roles_of spD_len (fun cdv A outer s H vs Q E hr h => ⟨t_roles_of G, PSs.nox ?_, body_of (N := N_roles_of) (n := 1) (by decide) law h⟩)⟩
  exact (pss_one (ps_ret (pe_tup (pa_cons (pe_fld (pv 0) rfl) (pa_cons (pe_fld (pv 0) rfl) (pa_cons (pe_fld (pv 0) rfl) pa_nil))))))

theorem sc_is_entry_for : FnScope N_is_entry_for ["library", "thing"] (defScope s_is_entry_for) := ⟨rfl, rfl, rfl, nd_is_entry_for, rfl, by decide +kernel, by decide +kernel⟩
theorem ok_is_entry_for {G : Gx} {mg : Str → Option Value} {base : Heap} (T : Txt G.K mg) (h_is_entry_of : Dfn G.P G.w G.K mg base "is_entry_of" ["thing", "bases", "constructors"] 5 (sp_is_entry_of G))
    (law : ∀ (B : Addr → Prop) (H : Hp) (ds : List D) (Q0 : D → Prop), ds.length = 2 → (F_is_entry_for (lbC G)) ds Q0 → WS ⟨G, B, H⟩ (t_is_entry_for G) (ent 2 ds) { nx := fun _ => Q0 .non, rt := Q0 }) : Dfn G.P G.w G.K mg base "is_entry_for" ["library", "thing"] 6 (sp_is_entry_for G) := by
  obtain ⟨fd, F, hm⟩ := T.d_is_entry_for
  refine ⟨_, fd, hm, F.kp, F.bindsN (fun _ _ _ _ _ _ us hl => match us, hl with | [_, _], _ => rfl), F.ok sc_is_entry_for spD_len (fun cdv A outer s H vs Q E hr h => ⟨t_is_entry_for G, PSs.nox ?_, body_of (N := N_is_entry_for) (n := 2) (by decide) law h⟩)⟩
  exact (pss_one (ps_ret (pe_callD h_is_entry_of (hr.mono (by decide)) (pa_cons (pv 1) (pa_cons (pe_fld (pv 0) rfl) (pa_cons (pe_fld (pv 0) rfl) pa_nil))))))

theorem sc_is_from_nought : FnScope N_is_from_nought ["thing"] (defScope s_is_from_nought) := ⟨rfl, rfl, rfl, nd_is_from_nought, rfl, by decide +kernel, by decide +kernel⟩
theorem ok_is_from_nought {G : Gx} {mg : Str → Option Value} {base : Heap} (T : Txt G.K mg) 
    (law : ∀ (B : Addr → Prop) (H : Hp) (ds : List D) (Q0 : D → Prop), ds.length = 1 → F_is_from_nought ds Q0 → WS ⟨G, B, H⟩ (t_is_from_nought G) (ent 1 ds) { nx := fun _ => Q0 .non, rt := Q0 }) : Dfn G.P G.w G.K mg base "is_from_nought" ["thing"] 1 (sp_is_from_nought G) := by
  obtain ⟨fd, F, hm⟩ := T.d_is_from_nought
  refine ⟨_, fd, hm, F.kp, F.bindsN (fun _ _ _ _ _ _ us hl => match us, hl with | [_], _ => rfl), F.ok sc_is_from_nought spD_len (fun cdv A outer s H vs Q E hr h => ⟨t_is_from_nought G, PSs.nox ?_, body_of (N := N_is_from_nought) (n := 1) (by decide) law h⟩)⟩
  exact (pss_one (ps_ret (pe_and (pe_callB call_isi (by rfl) T.free_isinstance (by decide +kernel) (pa_cons (pv 0) (pa_cons (pe_bltn (by rfl) T.free_int (by decide +kernel) rfl) pa_nil))) (pe_and (pe_not (pe_callB call_isi (by rfl) T.free_isinstance (by decide +kernel) (pa_cons (pv 0) (pa_cons (pe_bltn (by rfl) T.free_bool (by decide +kernel) rfl) pa_nil)))) (pe_one (pe_cmpR op_geU (pv 0) pe_int (nomark _)))))))

theorem sc_is_deed : FnScope N_is_deed ["base", "thing"] (defScope s_is_deed) := ⟨rfl, rfl, rfl, nd_is_deed, rfl, by decide +kernel, by decide +kernel⟩
theorem ok_is_deed {G : Gx} {mg : Str → Option Value} {base : Heap} (T : Txt G.K mg) (h_is_entry_for : Dfn G.P G.w G.K mg base "is_entry_for" ["library", "thing"] 6 (sp_is_entry_for G)) (h_is_from_nought : Dfn G.P G.w G.K mg base "is_from_nought" ["thing"] 1 (sp_is_from_nought G))
    (law : ∀ (B : Addr → Prop) (H : Hp) (ds : List D) (Q0 : D → Prop), ds.length = 2 → (F_is_deed (lbC G)) ds Q0 → WS ⟨G, B, H⟩ (t_is_deed G) (ent 2 ds) { nx := fun _ => Q0 .non, rt := Q0 }) : Dfn G.P G.w G.K mg base "is_deed" ["base", "thing"] 7 (sp_is_deed G) := by
  obtain ⟨fd, F, hm⟩ := T.d_is_deed
  refine ⟨_, fd, hm, F.kp, F.bindsN (fun _ _ _ _ _ _ us hl => match us, hl with | [_, _], _ => rfl), F.ok sc_is_deed spD_len (fun cdv A outer s H vs Q E hr h => ⟨t_is_deed G, PSs.nox ?_, body_of (N := N_is_deed) (n := 2) (by decide) law h⟩)⟩
  exact (pss_cons (ps_if (PW.pt (pw_or (pt_not (pt_val (pe_callB call_isi (by rfl) T.free_isinstance (by decide +kernel) (pa_cons (pv 1) (pa_cons (pe_bltn (by rfl) T.free_tuple (by decide +kernel) rfl) pa_nil))))) (pw_or (pt_cmpR (op_eqD hr.units) (pv 1) (pe_tup pa_nil) (nomark _)) (pw_or1 (pt_not (pt_val (pe_callB call_isi (by rfl) T.free_isinstance (by decide +kernel) (pa_cons (pe_ix ix_seq (pv 1) pe_int (fun _ _ => rfl)) (pa_cons (pe_bltn (by rfl) T.free_str (by decide +kernel) rfl) pa_nil))))))))) (pss_one (ps_ret pe_bl)) pss_nil)
      (pss_cons (ps_if (pt_cmpR (op_eqD hr.units) (pe_ix ix_seq (pv 1) pe_int (fun _ _ => rfl)) (pe_cst T.c_UNDO) (nomark _)) (pss_one (ps_ret (pe_and (pe_cmpR (op_eqD hr.units) (pe_callB call_len (by rfl) T.free_len (by decide +kernel) (pa_cons (pv 1) pa_nil)) pe_int (nomark _)) (pe_and (pe_callD h_is_from_nought (hr.mono (by decide)) (pa_cons (pe_ix ix_seq (pv 1) pe_int (fun _ _ => rfl)) pa_nil)) (pe_one (pe_callD h_is_from_nought (hr.mono (by decide)) (pa_cons (pe_ix ix_seq (pv 1) pe_int (fun _ _ => rfl)) pa_nil))))))) pss_nil)
      (pss_one (ps_ret (pe_and (pe_cmpR (op_eqD hr.units) (pe_callB call_len (by rfl) T.free_len (by decide +kernel) (pa_cons (pv 1) pa_nil)) pe_int (nomark _)) (pe_and (pe_cmpR (op_inU (hin hr)) (pe_ix ix_seq (pv 1) pe_int (fun _ _ => rfl)) (pe_tup (pa_cons (pe_cst T.c_ADD) (pa_cons (pe_cst T.c_DROP) pa_nil))) rfl) (pe_one (pe_callD h_is_entry_for (hr.mono (by decide)) (pa_cons (pv 0) (pa_cons (pe_ix ix_seq (pv 1) pe_int (fun _ _ => rfl)) pa_nil))))))))))

theorem sc_is_record : FnScope N_is_record ["base", "thing"] (defScope s_is_record) := ⟨rfl, rfl, rfl, nd_is_record, rfl, by decide +kernel, by decide +kernel⟩
theorem ok_is_record {G : Gx} {mg : Str → Option Value} {base : Heap} (T : Txt G.K mg) (h_is_deed : Dfn G.P G.w G.K mg base "is_deed" ["base", "thing"] 7 (sp_is_deed G)) (h_is_from_nought : Dfn G.P G.w G.K mg base "is_from_nought" ["thing"] 1 (sp_is_from_nought G))
    (law : ∀ (B : Addr → Prop) (H : Hp) (ds : List D) (Q0 : D → Prop), ds.length = 2 → (F_is_record (lbC G)) ds Q0 → WS ⟨G, B, H⟩ (t_is_record G) (ent 3 ds) { nx := fun _ => Q0 .non, rt := Q0 }) : Dfn G.P G.w G.K mg base "is_record" ["base", "thing"] 8 (sp_is_record G) := by
  obtain ⟨fd, F, hm⟩ := T.d_is_record
  refine ⟨_, fd, hm, F.kp, F.bindsN (fun _ _ _ _ _ _ us hl => match us, hl with | [_, _], _ => rfl), F.ok sc_is_record spD_len (fun cdv A outer s H vs Q E hr h => ⟨t_is_record G, PSs.nox ?_, body_of (N := N_is_record) (n := 2) (by decide) law h⟩)⟩
  exact (pss_cons (ps_if (PW.pt (pw_or (pt_not (pt_val (pe_callB call_isi (by rfl) T.free_isinstance (by decide +kernel) (pa_cons (pv 1) (pa_cons (pe_bltn (by rfl) T.free_tuple (by decide +kernel) rfl) pa_nil))))) (pw_or (pt_cmpR (op_neD hr.units) (pe_callB call_len (by rfl) T.free_len (by decide +kernel) (pa_cons (pv 1) pa_nil)) pe_int (nomark _)) (pw_or1 (pt_not (pt_val (pe_callD h_is_deed (hr.mono (by decide)) (pa_cons (pv 0) (pa_cons (pe_ix ix_seq (pv 1) (pe_cst T.c_DEED) (fun _ _ => rfl)) pa_nil))))))))) (pss_one (ps_ret pe_bl)) pss_nil)
      (pss_one (ps_ret (pe_callB (cr_all rfl) (by rfl) T.free_all (by decide +kernel) (pa_cons (pe_lc (own := [("part", 2)]) (g := (gName 2)) (tt := tYes) rfl nd_is_record (pi_seq (pe_slice sl_U (pv 1) po_none (po_some (pe_cst T.c_DEED)))) (blkOk_by (own := [("part", 2)]) (N := N_is_record) (sc := defScope s_is_record) (by decide +kernel)) (fun _ _ _ _ _ => (pg_name (i := 2) nd_is_record rfl (Or.inl rfl))) (fun _ _ _ _ _ => pts_nil) (fun _ _ _ _ _ => (pe_callD h_is_from_nought (hr.mono (by decide)) (pa_cons (pv 2) pa_nil)))) pa_nil)))))

theorem sc_name_of : FnScope N_name_of ["record"] (defScope s_name_of) := ⟨rfl, rfl, rfl, nd_name_of, rfl, by decide +kernel, by decide +kernel⟩
theorem ok_name_of {G : Gx} {mg : Str → Option Value} {base : Heap} (T : Txt G.K mg) 
    (law : ∀ (B : Addr → Prop) (H : Hp) (ds : List D) (Q0 : D → Prop), ds.length = 1 → F_name_of ds Q0 → WS ⟨G, B, H⟩ (t_name_of G) (ent 1 ds) { nx := fun _ => Q0 .non, rt := Q0 }) : Dfn G.P G.w G.K mg base "name_of" ["record"] 1 (sp_name_of G) := by
  obtain ⟨fd, F, hm⟩ := T.d_name_of
  refine ⟨_, fd, hm, F.kp, F.bindsN (fun _ _ _ _ _ _ us hl => match us, hl with | [_], _ => rfl), F.ok sc_name_of spD_len (fun cdv A outer s H vs Q E hr h => ⟨t_name_of G, PSs.nox ?_, body_of (N := N_name_of) (n := 1) (by decide) law h⟩)⟩
  exact (pss_one (ps_ret (pe_slice sl_U (pv 0) po_none (po_some (pe_cst T.c_DAY)))))

theorem sc_rank_of : FnScope N_rank_of ["record"] (defScope s_rank_of) := ⟨rfl, rfl, rfl, nd_rank_of, rfl, by decide +kernel, by decide +kernel⟩
theorem ok_rank_of {G : Gx} {mg : Str → Option Value} {base : Heap} (T : Txt G.K mg) 
    (law : ∀ (B : Addr → Prop) (H : Hp) (ds : List D) (Q0 : D → Prop), ds.length = 1 → F_rank_of ds Q0 → WS ⟨G, B, H⟩ (t_rank_of G) (ent 1 ds) { nx := fun _ => Q0 .non, rt := Q0 }) : Dfn G.P G.w G.K mg base "rank_of" ["record"] 1 (sp_rank_of G) := by
  obtain ⟨fd, F, hm⟩ := T.d_rank_of
  refine ⟨_, fd, hm, F.kp, F.bindsN (fun _ _ _ _ _ _ us hl => match us, hl with | [_], _ => rfl), F.ok sc_rank_of spD_len (fun cdv A outer s H vs Q E hr h => ⟨t_rank_of G, PSs.nox ?_, body_of (N := N_rank_of) (n := 1) (by decide) law h⟩)⟩
  exact (pss_one (ps_ret (pe_tup (pa_cons (pe_ix ix_seq (pv 0) (pe_cst T.c_DAY) (fun _ _ => rfl)) (pa_cons (pe_ix ix_seq (pv 0) (pe_cst T.c_HAND) (fun _ _ => rfl)) (pa_cons (pe_ix ix_seq (pv 0) (pe_cst T.c_N) (fun _ _ => rfl)) pa_nil))))))

theorem sc_are_records : FnScope N_are_records ["base", "thing"] (defScope s_are_records) := ⟨rfl, rfl, rfl, nd_are_records, rfl, by decide +kernel, by decide +kernel⟩
theorem ok_are_records {G : Gx} {mg : Str → Option Value} {base : Heap} (T : Txt G.K mg) (h_is_record : Dfn G.P G.w G.K mg base "is_record" ["base", "thing"] 8 (sp_is_record G)) (h_name_of : Dfn G.P G.w G.K mg base "name_of" ["record"] 1 (sp_name_of G))
    (law : ∀ (B : Addr → Prop) (H : Hp) (ds : List D) (Q0 : D → Prop), ds.length = 2 → (F_are_records (lbC G)) ds Q0 → WS ⟨G, B, H⟩ (t_are_records G) (ent 6 ds) { nx := fun _ => Q0 .non, rt := Q0 }) : Dfn G.P G.w G.K mg base "are_records" ["base", "thing"] 9 (sp_are_records G) := by
  obtain ⟨fd, F, hm⟩ := T.d_are_records
  refine ⟨_, fd, hm, F.kp, F.bindsN (fun _ _ _ _ _ _ us hl => match us, hl with | [_, _], _ => rfl), F.ok sc_are_records spD_len (fun cdv A outer s H vs Q E hr h => ⟨t_are_records G, PSs.nox ?_, body_of (N := N_are_records) (n := 2) (by decide) law h⟩)⟩
  exact (pss_cons (ps_if (PW.pt (pw_or (pt_not (pt_val (pe_callB call_isi (by rfl) T.free_isinstance (by decide +kernel) (pa_cons (pv 1) (pa_cons (pe_bltn (by rfl) T.free_tuple (by decide +kernel) rfl) pa_nil))))) (pw_or1 (pt_not (pt_val (pe_callB (cr_all rfl) (by rfl) T.free_all (by decide +kernel) (pa_cons (pe_lc (own := [("record", 3)]) (g := (gName 3)) (tt := tYes) rfl nd_are_records (pi_seq (pv 1)) (blkOk_by (own := [("record", 3)]) (N := N_are_records) (sc := defScope s_are_records) (by decide +kernel)) (fun _ _ _ _ _ => (pg_name (i := 3) nd_are_records rfl (Or.inl rfl))) (fun _ _ _ _ _ => pts_nil) (fun _ _ _ _ _ => (pe_callD h_is_record (hr.mono (by decide)) (pa_cons (pv 0) (pa_cons (pv 3) pa_nil))))) pa_nil))))))) (pss_one (ps_ret pe_bl)) pss_nil)
      (pss_cons (ps_set (i := 2) nd_are_records rfl (Or.inl rfl) (pe_callB (cr_sortedD hr.units) (by rfl) T.free_sorted (by decide +kernel) (pa_cons (pe_lc (own := [("record", 3)]) (g := (gName 3)) (tt := tYes) rfl nd_are_records (pi_seq (pv 1)) (blkOk_by (own := [("record", 3)]) (N := N_are_records) (sc := defScope s_are_records) (by decide +kernel)) (fun _ _ _ _ _ => (pg_name (i := 3) nd_are_records rfl (Or.inl rfl))) (fun _ _ _ _ _ => pts_nil) (fun _ _ _ _ _ => (pe_callD h_name_of (hr.mono (by decide)) (pa_cons (pv 3) pa_nil)))) pa_nil)))
      (pss_one (ps_ret (pe_callB (cr_all rfl) (by rfl) T.free_all (by decide +kernel) (pa_cons (pe_lc (own := [("one", 4), ("other", 5)]) (g := (gTup G.K 2 (gCons (gName 4) (gCons (gName 5) gNil)))) (tt := tYes) rfl nd_are_records (pi_zipK (by rfl) T.free_zip (pa_cons (pv 2) (pa_cons (pe_slice sl_U (pv 2) (po_some pe_int) po_none) pa_nil))) (blkOk_by (own := [("one", 4), ("other", 5)]) (N := N_are_records) (sc := defScope s_are_records) (by decide +kernel)) (fun _ _ _ _ _ => (pg_tup rfl (pgs_cons (pg_name (i := 4) nd_are_records rfl (Or.inl rfl)) (pgs_cons (pg_name (i := 5) nd_are_records rfl (Or.inl rfl)) pgs_nil)))) (fun _ _ _ _ _ => pts_nil) (fun _ _ _ _ _ => (pe_cmpR (op_ltU hr.units0) (pv 4) (pv 5) (nomark _)))) pa_nil))))))

theorem sc_by_rank : FnScope N_by_rank ["records"] (defScope s_by_rank) := ⟨rfl, rfl, rfl, nd_by_rank, rfl, by decide +kernel, by decide +kernel⟩
theorem ok_by_rank {G : Gx} {mg : Str → Option Value} {base : Heap} (T : Txt G.K mg) (h_rank_of : Dfn G.P G.w G.K mg base "rank_of" ["record"] 1 (sp_rank_of G))
    (law : ∀ (B : Addr → Prop) (H : Hp) (ds : List D) (Q0 : D → Prop), ds.length = 1 → F_by_rank ds Q0 → WS ⟨G, B, H⟩ (t_by_rank G) (ent 1 ds) { nx := fun _ => Q0 .non, rt := Q0 }) : Dfn G.P G.w G.K mg base "by_rank" ["records"] 6 (sp_by_rank G) := by
  obtain ⟨fd, F, hm⟩ := T.d_by_rank
  refine ⟨_, fd, hm, F.kp, F.bindsN (fun _ _ _ _ _ _ us hl => match us, hl with | [_], _ => rfl), F.ok sc_by_rank spD_len (fun cdv A outer s H vs Q E hr h => ⟨t_by_rank G, PSs.nox ?_, body_of (N := N_by_rank) (n := 1) (by decide) law h⟩)⟩
  exact (pss_one (ps_ret (pe_sortKF rfl h_rank_of (hr.mono (by decide)) (pa_cons (pe_callTy call_list_of (by rfl) T.free_list (by decide +kernel) (pa_cons (pv 0) pa_nil)) pa_nil) (by rfl) T.free_sorted (by rfl) (by decide))))

theorem sc_live_in : FnScope N_live_in ["records", "day"] (defScope s_live_in) := ⟨rfl, rfl, rfl, nd_live_in, rfl, by decide +kernel, by decide +kernel⟩
theorem ok_live_in {G : Gx} {mg : Str → Option Value} {base : Heap} (T : Txt G.K mg) (h_by_rank : Dfn G.P G.w G.K mg base "by_rank" ["records"] 6 (sp_by_rank G)) (h_name_of : Dfn G.P G.w G.K mg base "name_of" ["record"] 1 (sp_name_of G))
    (law : ∀ (B : Addr → Prop) (H : Hp) (ds : List D) (Q0 : D → Prop), ds.length = 2 → F_live_in ds Q0 → WS ⟨G, B, H⟩ (t_live_in G) (ent 5 ds) { nx := fun _ => Q0 .non, rt := Q0 }) : Dfn G.P G.w G.K mg base "live_in" ["records", "day"] 7 (sp_live_in G) := by
  obtain ⟨fd, F, hm⟩ := T.d_live_in
  refine ⟨_, fd, hm, F.kp, F.bindsN (fun _ _ _ _ _ _ us hl => match us, hl with | [_, _], _ => rfl), F.ok sc_live_in spD_len (fun cdv A outer s H vs Q E hr h => ⟨t_live_in G, PSs.nox ?_, body_of (N := N_live_in) (n := 2) (by decide) law h⟩)⟩
  exact (pss_cons (ps_par (i := 2) (j := 3) rfl nd_live_in rfl rfl (by decide) rfl rfl (pa_cons (pe_lst pa_nil) (pa_cons pe_dnewT pa_nil)) (by rfl))
      (pss_cons (ps_for PassesOwn.never rfl (pi_seq (pe_revL (pe_callD h_by_rank (hr.mono (by decide)) (pa_cons (pe_lc (own := [("record", 4)]) (g := (gName 4)) (tt := (tTest (tOp rLeU (tOp (rIx G.K) (tVar 4) (tC (.int 2))) (tVar 1)))) rfl nd_live_in (pi_seq (pv 0)) (blkOk_by (own := [("record", 4)]) (N := N_live_in) (sc := defScope s_live_in) (by decide +kernel)) (fun _ _ _ _ _ => (pg_name (i := 4) nd_live_in rfl (Or.inl rfl))) (fun _ _ _ _ _ => (pts_one (pt_cmpR op_leU (pe_ix ix_seq (pv 4) (pe_cst T.c_DAY) (fun _ _ => rfl)) (pv 1) (nomark _)))) (fun _ _ _ _ _ => (pv 4))) pa_nil)))) (pg_name (i := 4) nd_live_in rfl (Or.inl rfl)) (pss_one (ps_if (pt_cmp (pc_dnotinT (hu_of hr) (pe_callD h_name_of (hr.mono (by decide)) (pa_cons (pv 4) pa_nil)) (pv 3))) (pss_cons (ps_expr (pe_bm PySem.F.plainAttrs_list PySem.F.slot_list_append PySem.F.type_list_append mt_append (pv 2) (pa_cons (pv 4) pa_nil)))
      (pss_one (ps_if (pt_cmpR (op_eqD hr.units) (pe_ix ix_seq (pe_ix ix_seq (pv 4) (pe_cst T.c_DEED) (fun _ _ => rfl)) pe_int (fun _ _ => rfl)) (pe_cst T.c_UNDO) (nomark _)) (pss_one (ps_dput (hu_of hr) (pv 3) (pe_slice sl_U (pe_ix ix_seq (pv 4) (pe_cst T.c_DEED) (fun _ _ => rfl)) (po_some pe_int) po_none) pe_bl rfl)) pss_nil))) pss_nil)))
      (pss_one (ps_ret (pe_revL (pv 2))))))

theorem sc_entries_behind : FnScope N_entries_behind ["entries", "deed"] (defScope s_entries_behind) := ⟨rfl, rfl, rfl, nd_entries_behind, rfl, by decide +kernel, by decide +kernel⟩
theorem ok_entries_behind {G : Gx} {mg : Str → Option Value} {base : Heap} (T : Txt G.K mg) (h_clash_with : Dfn G.P G.w G.K mg base "clash_with" ["entry", "others"] 6 (sp_clash_with G))
    (law : ∀ (B : Addr → Prop) (H : Hp) (ds : List D) (Q0 : D → Prop), ds.length = 2 → F_entries_behind ds Q0 → WS ⟨G, B, H⟩ (t_entries_behind G) (ent 5 ds) { nx := fun _ => Q0 .non, rt := Q0 }) : Dfn G.P G.w G.K mg base "entries_behind" ["entries", "deed"] 7 (sp_entries_behind G) := by
  obtain ⟨fd, F, hm⟩ := T.d_entries_behind
  refine ⟨_, fd, hm, F.kp, F.bindsN (fun _ _ _ _ _ _ us hl => match us, hl with | [_, _], _ => rfl), F.ok sc_entries_behind spD_len (fun cdv A outer s H vs Q E hr h => ⟨t_entries_behind G, PSs.nox ?_, body_of (N := N_entries_behind) (n := 2) (by decide) law h⟩)⟩
  exact (pss_cons (ps_asg (pv 1) (pg_tup rfl (pgs_cons (pg_name (i := 2) nd_entries_behind rfl (Or.inl rfl)) (pgs_cons (pg_name (i := 3) nd_entries_behind rfl (Or.inr rfl)) pgs_nil))))
      (pss_cons (ps_if (pt_cmpR (op_eqD hr.units) (pv 2) (pe_cst T.c_DROP) (nomark _)) (pss_one (ps_ret (pe_lc (own := [("other", 4)]) (g := (gName 4)) (tt := (tTest (tOp (rNeD G.K) (tVar 4) (tVar 3)))) rfl nd_entries_behind (pi_seq (pv 0)) (blkOk_by (own := [("other", 4)]) (N := N_entries_behind) (sc := defScope s_entries_behind) (by decide +kernel)) (fun _ _ _ _ _ => (pg_name (i := 4) nd_entries_behind rfl (Or.inl rfl))) (fun _ _ _ _ _ => (pts_one (pt_cmpR (op_neD hr.units) (pv 4) (pv 3) (nomark _)))) (fun _ _ _ _ _ => (pv 4))))) pss_nil)
      (pss_one (ps_ret (pe_ifExp (pt_cmpR op_notN1 (pe_callD h_clash_with (hr.mono (by decide)) (pa_cons (pv 3) (pa_cons (pv 0) pa_nil))) pe_non (nomark _)) (pv 0) (pe_lst (StX.pa_star (pv 0) (pa_cons (pv 3) pa_nil))))))))

theorem sc_need_records : FnScope N_need_records ["base", "records"] (defScope s_need_records) := ⟨rfl, rfl, rfl, nd_need_records, rfl, by decide +kernel, by decide +kernel⟩
theorem ok_need_records {G : Gx} {mg : Str → Option Value} {base : Heap} (T : Txt G.K mg) (h_are_records : Dfn G.P G.w G.K mg base "are_records" ["base", "thing"] 9 (sp_are_records G))
    (law : ∀ (B : Addr → Prop) (H : Hp) (ds : List D) (Q0 : D → Prop), ds.length = 2 → (F_need_records (lbC G)) ds Q0 → WS ⟨G, B, H⟩ (t_need_records G) (ent 2 ds) { nx := fun _ => Q0 .non, rt := Q0 }) : Dfn G.P G.w G.K mg base "need_records" ["base", "records"] 10 (sp_need_records G) := by
  obtain ⟨fd, F, hm⟩ := T.d_need_records
  refine ⟨_, fd, hm, F.kp, F.bindsN (fun _ _ _ _ _ _ us hl => match us, hl with | [_, _], _ => rfl), F.ok sc_need_records spD_len (fun cdv A outer s H vs Q E hr h => ⟨t_need_records G, PSs.nox ?_, body_of (N := N_need_records) (n := 2) (by decide) law h⟩)⟩
  exact (pss_one (ps_if (pt_not (pt_val (pe_callD h_are_records (hr.mono (by decide)) (pa_cons (pv 0) (pa_cons (pv 1) pa_nil))))) (pss_one ps_never) pss_nil))

theorem sc_need_day : FnScope N_need_day ["day"] (defScope s_need_day) := ⟨rfl, rfl, rfl, nd_need_day, rfl, by decide +kernel, by decide +kernel⟩
theorem ok_need_day {G : Gx} {mg : Str → Option Value} {base : Heap} (T : Txt G.K mg) (h_is_from_nought : Dfn G.P G.w G.K mg base "is_from_nought" ["thing"] 1 (sp_is_from_nought G))
    (law : ∀ (B : Addr → Prop) (H : Hp) (ds : List D) (Q0 : D → Prop), ds.length = 1 → F_need_day ds Q0 → WS ⟨G, B, H⟩ (t_need_day G) (ent 1 ds) { nx := fun _ => Q0 .non, rt := Q0 }) : Dfn G.P G.w G.K mg base "need_day" ["day"] 2 (sp_need_day G) := by
  obtain ⟨fd, F, hm⟩ := T.d_need_day
  refine ⟨_, fd, hm, F.kp, F.bindsN (fun _ _ _ _ _ _ us hl => match us, hl with | [_], _ => rfl), F.ok sc_need_day spD_len (fun cdv A outer s H vs Q E hr h => ⟨t_need_day G, PSs.nox ?_, body_of (N := N_need_day) (n := 1) (by decide) law h⟩)⟩
  exact (pss_one (ps_if (pt_not (pt_val (pe_callD h_is_from_nought (hr.mono (by decide)) (pa_cons (pv 0) pa_nil)))) (pss_one ps_never) pss_nil))
end Sw
end

section
set_option Elab.async false
set_option autoImplicit false
set_option linter.all false
set_option maxRecDepth 100000
set_option maxHeartbeats 4000000
namespace Sw
open PySem PySem.Spec PyProof.Rows L2
theorem sc__law_pick : FnScope N__law_pick ["deck", "some"] (defScope s__law_pick) := ⟨rfl, rfl, rfl, nd__law_pick, rfl, by decide +kernel, by decide +kernel⟩
theorem ok__law_pick {G : Gx} {mg : Str → Option Value} {base : Heap} (T : Txt G.K mg) (h__law_draw : Dfn G.P G.w G.K mg base "_law_draw" ["deck", "many"] 1 (sp__law_draw G))
    (law : ∀ (B : Addr → Prop) (H : Hp) (ds : List D) (Q0 : D → Prop), ds.length = 2 → F__law_pick ds Q0 → WS ⟨G, B, H⟩ (t__law_pick G) (ent 2 ds) { nx := fun _ => Q0 .non, rt := Q0 }) : Dfn G.P G.w G.K mg base "_law_pick" ["deck", "some"] 2 (sp__law_pick G) := by
  obtain ⟨fd, F, hm⟩ := T.d__law_pick
  refine ⟨_, fd, hm, F.kp, F.bindsN (fun _ _ _ _ _ _ us hl => match us, hl with | [_, _], _ => rfl), F.ok sc__law_pick spD_len (fun cdv A outer s H vs Q E hr h => ⟨t__law_pick G, PSs.nox ?_, body_of (N := N__law_pick) (n := 2) (by decide) law h⟩)⟩
  exact (pss_one (ps_ret (pe_ix ix_seq (pv 1) (pe_callD h__law_draw (hr.mono (by decide)) (pa_cons (pv 0) (pa_cons (pe_callB call_len (by rfl) T.free_len (by decide +kernel) (pa_cons (pv 1) pa_nil)) pa_nil))) (fun _ _ => rfl))))

theorem sc__law_names : FnScope N__law_names ["deck", "many"] (defScope s__law_names) := ⟨rfl, rfl, rfl, nd__law_names, rfl, by decide +kernel, by decide +kernel⟩
theorem ok__law_names {G : Gx} {mg : Str → Option Value} {base : Heap} (T : Txt G.K mg) (h__law_draw : Dfn G.P G.w G.K mg base "_law_draw" ["deck", "many"] 1 (sp__law_draw G)) (h__law_pick : Dfn G.P G.w G.K mg base "_law_pick" ["deck", "some"] 2 (sp__law_pick G))
    (law : ∀ (B : Addr → Prop) (H : Hp) (ds : List D) (Q0 : D → Prop), ds.length = 2 → F__law_names ds Q0 → WS ⟨G, B, H⟩ (t__law_names G) (ent 9 ds) { nx := fun _ => Q0 .non, rt := Q0 }) : Dfn G.P G.w G.K mg base "_law_names" ["deck", "many"] 3 (sp__law_names G) := by
  obtain ⟨fd, F, hm⟩ := T.d__law_names
  refine ⟨_, fd, hm, F.kp, F.bindsN (fun _ _ _ _ _ _ us hl => match us, hl with | [_, _], _ => rfl), F.ok sc__law_names spD_len (fun cdv A outer s H vs Q E hr h => ⟨t__law_names G, PSs.nox ?_, body_of (N := N__law_names) (n := 2) (by decide) law h⟩)⟩
  exact (pss_cons (ps_asg (pe_tup (pa_cons pe_str (pa_cons (pe_callD h__law_draw (hr.mono (by decide)) (pa_cons (pv 0) (pa_cons pe_int pa_nil))) pa_nil))) (pg_tup rfl (pgs_cons (pg_name (i := 2) nd__law_names rfl (Or.inr rfl)) (pgs_cons (pg_name (i := 3) nd__law_names rfl (Or.inr rfl)) pgs_nil))))
      (pss_cons (ps_set (i := 4) nd__law_names rfl (Or.inr rfl) (pe_callD h__law_pick (hr.mono (by decide)) (pa_cons (pv 0) (pa_cons (pe_lst (pa_cons pe_int (pa_cons pe_int (pa_cons pe_int (pa_cons pe_int (pa_cons pe_int (pa_cons pe_int (pa_cons pe_int (pa_cons pe_int pa_nil))))))))) pa_nil))))
      (pss_cons (ps_setLc (i := 5) (own := [("at", 7)]) (g := (gName 7)) (tt := tYes) rfl nd__law_names rfl rfl (sw_true rfl rfl rfl (by decide +kernel)) (pi_range1 (by rfl) T.free_range (pa_cons (pv 1) pa_nil)) (blkOk_by (own := [("at", 7)]) (N := N__law_names) (sc := defScope s__law_names) (by decide +kernel)) (fun _ _ _ _ _ => (pg_name (i := 7) nd__law_names rfl (Or.inl rfl))) (fun _ _ _ _ _ => pts_nil) (fun _ _ _ _ _ => (pe_ix ix_seq (pv 2) (pe_op op_modU (pe_callTy call_int1 (by rfl) T.free_int (by decide +kernel) (pa_cons (pe_op op_addU (pv 3) (pe_op op_mulU (pv 4) (pv 7))) pa_nil)) pe_int) (fun _ _ => rfl))))
      (pss_cons (ps_set (i := 6) nd__law_names rfl (Or.inl rfl) (pe_callD h__law_draw (hr.mono (by decide)) (pa_cons (pv 0) (pa_cons pe_int pa_nil))))
      (pss_cons (ps_if (pt_cmpR (op_eqD hr.units) (pv 6) pe_int (nomark _)) (pss_one (ps_ret (pe_lc (own := [("name", 8)]) (g := (gName 8)) (tt := tYes) rfl nd__law_names (pi_seq (pv 5)) (blkOk_by (own := [("name", 8)]) (N := N__law_names) (sc := defScope s__law_names) (by decide +kernel)) (fun _ _ _ _ _ => (pg_name (i := 8) nd__law_names rfl (Or.inl rfl))) (fun _ _ _ _ _ => pts_nil) (fun _ _ _ _ _ => (pe_op op_addU pe_str (pv 8)))))) pss_nil)
      (pss_cons (ps_if (pt_cmpR (op_eqD hr.units) (pv 6) pe_int (nomark _)) (pss_one (ps_ret (pe_lc (own := [("name", 8)]) (g := (gName 8)) (tt := tYes) rfl nd__law_names (pi_seq (pv 5)) (blkOk_by (own := [("name", 8)]) (N := N__law_names) (sc := defScope s__law_names) (by decide +kernel)) (fun _ _ _ _ _ => (pg_name (i := 8) nd__law_names rfl (Or.inl rfl))) (fun _ _ _ _ _ => pts_nil) (fun _ _ _ _ _ => (pe_op op_addU (pv 8) (pe_callD h__law_pick (hr.mono (by decide)) (pa_cons (pv 0) (pa_cons (pe_lst (pa_cons pe_str (pa_cons pe_str (pa_cons pe_str (pa_cons pe_str pa_nil))))) pa_nil)))))))) pss_nil)
      (pss_one (ps_ret (pv 5)))))))))

theorem sc__law_pattern : FnScope N__law_pattern ["deck", "constructors", "lasts", "most"] (defScope s__law_pattern) := ⟨rfl, rfl, rfl, nd__law_pattern, rfl, by decide +kernel, by decide +kernel⟩
theorem ok__law_pattern {G : Gx} {mg : Str → Option Value} {base : Heap} (T : Txt G.K mg) (h__law_draw : Dfn G.P G.w G.K mg base "_law_draw" ["deck", "many"] 1 (sp__law_draw G)) (h__law_pick : Dfn G.P G.w G.K mg base "_law_pick" ["deck", "some"] 2 (sp__law_pick G))
    (law : ∀ (B : Addr → Prop) (H : Hp) (ds : List D) (Q0 : D → Prop), ds.length = 4 → F__law_pattern ds Q0 → WS ⟨G, B, H⟩ (t__law_pattern G) (ent 6 ds) { nx := fun _ => Q0 .non, rt := Q0 }) : Dfn G.P G.w G.K mg base "_law_pattern" ["deck", "constructors", "lasts", "most"] 3 (sp__law_pattern G) := by
  obtain ⟨fd, F, hm⟩ := T.d__law_pattern
  refine ⟨_, fd, hm, F.kp, F.bindsN (fun _ _ _ _ _ _ us hl => match us, hl with | [_, _, _, _], _ => rfl), F.ok sc__law_pattern spD_len (fun cdv A outer s H vs Q E hr h => ⟨t__law_pattern G, PSs.nox ?_, body_of (N := N__law_pattern) (n := 4) (by decide) law h⟩)⟩
  exact (pss_cons (ps_set (i := 4) nd__law_pattern rfl (Or.inl rfl) (pe_ifExp (pt_cmpR (op_neD hr.units) (pv 1) (pe_tup pa_nil) (nomark _)) (pe_callD h__law_draw (hr.mono (by decide)) (pa_cons (pv 0) (pa_cons (pe_op op_addU (pv 3) pe_int) pa_nil))) pe_int))
      (pss_one (ps_ret (pe_op op_addU (pe_callTy call_tuple_of (by rfl) T.free_tuple (by decide +kernel) (pa_cons (pe_lc (own := [("at", 5)]) (g := (gName 5)) (tt := tYes) rfl nd__law_pattern (pi_range1 (by rfl) T.free_range (pa_cons (pv 4) pa_nil)) (blkOk_by (own := [("at", 5)]) (N := N__law_pattern) (sc := defScope s__law_pattern) (by decide +kernel)) (fun _ _ _ _ _ => (pg_name (i := 5) nd__law_pattern rfl (Or.inl rfl))) (fun _ _ _ _ _ => pts_nil) (fun _ _ _ _ _ => (pe_callD h__law_pick (hr.mono (by decide)) (pa_cons (pv 0) (pa_cons (pv 1) pa_nil))))) pa_nil)) (pe_tup (pa_cons (pe_callD h__law_pick (hr.mono (by decide)) (pa_cons (pv 0) (pa_cons (pv 2) pa_nil))) pa_nil))))))

theorem sc__law_entry : FnScope N__law_entry ["deck", "names", "bases", "constructors"] (defScope s__law_entry) := ⟨rfl, rfl, rfl, nd__law_entry, rfl, by decide +kernel, by decide +kernel⟩
theorem ok__law_entry {G : Gx} {mg : Str → Option Value} {base : Heap} (T : Txt G.K mg) (h__law_pattern : Dfn G.P G.w G.K mg base "_law_pattern" ["deck", "constructors", "lasts", "most"] 3 (sp__law_pattern G)) (h__law_pick : Dfn G.P G.w G.K mg base "_law_pick" ["deck", "some"] 2 (sp__law_pick G))
    (law : ∀ (B : Addr → Prop) (H : Hp) (ds : List D) (Q0 : D → Prop), ds.length = 4 → F__law_entry ds Q0 → WS ⟨G, B, H⟩ (t__law_entry G) (ent 11 ds) { nx := fun _ => Q0 .non, rt := Q0 }) : Dfn G.P G.w G.K mg base "_law_entry" ["deck", "names", "bases", "constructors"] 4 (sp__law_entry G) := by
  obtain ⟨fd, F, hm⟩ := T.d__law_entry
  refine ⟨_, fd, hm, F.kp, F.bindsN (fun _ _ _ _ _ _ us hl => match us, hl with | [_, _, _, _], _ => rfl), F.ok sc__law_entry spD_len (fun cdv A outer s H vs Q E hr h => ⟨t__law_entry G, PSs.nox ?_, body_of (N := N__law_entry) (n := 4) (by decide) law h⟩)⟩
  exact (pss_cons (ps_set (i := 4) nd__law_entry rfl (Or.inl rfl) (pe_callD h__law_pick (hr.mono (by decide)) (pa_cons (pv 0) (pa_cons (pe_lst (pa_cons pe_str (pa_cons pe_str (pa_cons pe_str (pa_cons pe_str (pa_cons pe_str pa_nil)))))) pa_nil))))
      (pss_cons (ps_par (i := 5) (j := 6) rfl nd__law_entry rfl rfl (by decide) rfl rfl (pa_cons (pe_callD h__law_pick (hr.mono (by decide)) (pa_cons (pv 0) (pa_cons (pv 1) pa_nil))) (pa_cons (pe_callD h__law_pick (hr.mono (by decide)) (pa_cons (pv 0) (pa_cons (pe_lst (pa_cons pe_int (pa_cons pe_int (pa_cons pe_int (pa_cons pe_int (pa_cons pe_int pa_nil)))))) pa_nil))) pa_nil)) (by rfl))
      (pss_cons (ps_if (pt_cmpR (op_eqD hr.units) (pv 4) pe_str (nomark _)) (pss_one (ps_par (i := 5) (j := 6) rfl nd__law_entry rfl rfl (by decide) rfl rfl (pa_cons (pe_callD h__law_pick (hr.mono (by decide)) (pa_cons (pv 0) (pa_cons (pe_lst (pa_cons pe_str (pa_cons pe_str pa_nil))) pa_nil))) (pa_cons pe_int pa_nil)) (by rfl))) pss_nil)
      (pss_cons (ps_set (i := 6) nd__law_entry rfl (Or.inl rfl) (pe_ifExp (PW.pt (pw_and (pt_cmpR (op_eqD hr.units) (pv 4) pe_str (nomark _)) (pw_and1 (pt_cmpR (op_eqD hr.units) (pv 6) pe_int (nomark _))))) pe_int (pv 6)))
      (pss_cons (ps_set (i := 7) nd__law_entry rfl (Or.inl rfl) (pe_callTy call_tuple_of (by rfl) T.free_tuple (by decide +kernel) (pa_cons (pe_lc (own := [("at", 9)]) (g := (gName 9)) (tt := tYes) rfl nd__law_entry (pi_range1 (by rfl) T.free_range (pa_cons (pv 6) pa_nil)) (blkOk_by (own := [("at", 9)]) (N := N__law_entry) (sc := defScope s__law_entry) (by decide +kernel)) (fun _ _ _ _ _ => (pg_name (i := 9) nd__law_entry rfl (Or.inl rfl))) (fun _ _ _ _ _ => pts_nil) (fun _ _ _ _ _ => (pe_callD h__law_pattern (hr.mono (by decide)) (pa_cons (pv 0) (pa_cons (pv 3) (pa_cons (pe_op op_addU (pe_tup (pa_cons pe_str (pa_cons pe_str pa_nil))) (pv 2)) (pa_cons pe_int pa_nil))))))) pa_nil)))
      (pss_cons (ps_set (i := 8) nd__law_entry rfl (Or.inl rfl) (pe_cmpR (op_neD hr.units) (pe_lc (own := [("pattern", 10)]) (g := (gName 10)) (tt := (tTest (tOp (rEqD G.K) (tOp (rIx G.K) (tVar 10) (tUn (rU fun i => .int (-i)) (tC (.int 1)))) (tC (.str "T"))))) rfl nd__law_entry (pi_seq (pv 7)) (blkOk_by (own := [("pattern", 10)]) (N := N__law_entry) (sc := defScope s__law_entry) (by decide +kernel)) (fun _ _ _ _ _ => (pg_name (i := 10) nd__law_entry rfl (Or.inl rfl))) (fun _ _ _ _ _ => (pts_one (pt_cmpR (op_eqD hr.units) (pe_ix ix_seq (pv 10) (pe_un un_neg pe_int) (fun _ _ => rfl)) pe_str (nomark _)))) (fun _ _ _ _ _ => pe_int)) (pe_lst pa_nil) (nomark _)))
      (pss_one (ps_ret (pe_tup (pa_cons (pv 4) (pa_cons (pv 5) (pa_cons (pv 7) (pa_cons (pe_callD h__law_pattern (hr.mono (by decide)) (pa_cons (pv 0) (pa_cons (pv 3) (pa_cons (pe_ifExp (pt_val (pv 8)) (pe_op op_addU (pe_tup (pa_cons pe_str (pa_cons pe_str pa_nil))) (pv 2)) (pv 2)) (pa_cons pe_int pa_nil))))) pa_nil)))))))))))))
end Sw
end

section
set_option Elab.async false
set_option autoImplicit false
set_option linter.all false
set_option maxRecDepth 100000
set_option maxHeartbeats 4000000
namespace Sw
open PySem PySem.Spec PyProof.Rows L2
theorem sc__law_do_clash : FnScope N__law_do_clash ["one", "other"] (defScope s__law_do_clash) := ⟨rfl, rfl, rfl, nd__law_do_clash, rfl, by decide +kernel, by decide +kernel⟩
theorem ok__law_do_clash {G : Gx} {mg : Str → Option Value} {base : Heap} (T : Txt G.K mg) (h__law_do_meet : Dfn G.P G.w G.K mg base "_law_do_meet" ["rows", "others"] 1 (sp__law_do_meet G))
    (law : ∀ (B : Addr → Prop) (H : Hp) (ds : List D) (Q0 : D → Prop), ds.length = 2 → F__law_do_clash ds Q0 → WS ⟨G, B, H⟩ (t__law_do_clash G) (ent 2 ds) { nx := fun _ => Q0 .non, rt := Q0 }) : Dfn G.P G.w G.K mg base "_law_do_clash" ["one", "other"] 2 (sp__law_do_clash G) := by
  obtain ⟨fd, F, hm⟩ := T.d__law_do_clash
  refine ⟨_, fd, hm, F.kp, F.bindsN (fun _ _ _ _ _ _ us hl => match us, hl with | [_, _], _ => rfl), F.ok sc__law_do_clash spD_len (fun cdv A outer s H vs Q E hr h => ⟨t__law_do_clash G, PSs.nox ?_, body_of (N := N__law_do_clash) (n := 2) (by decide) law h⟩)⟩
  exact (pss_one (ps_ret (pe_and (pe_cmpR (op_eqD hr.units) (pe_slice sl_U (pv 0) po_none (po_some pe_int)) (pe_slice sl_U (pv 1) po_none (po_some pe_int)) (nomark _)) (pe_and (pe_cmpR (op_eqD hr.units) (pe_callB call_len (by rfl) T.free_len (by decide +kernel) (pa_cons (pe_ix ix_seq (pv 0) pe_int (fun _ _ => rfl)) pa_nil)) (pe_callB call_len (by rfl) T.free_len (by decide +kernel) (pa_cons (pe_ix ix_seq (pv 1) pe_int (fun _ _ => rfl)) pa_nil)) (nomark _)) (pe_one (pe_callD h__law_do_meet (hr.mono (by decide)) (pa_cons (pe_ix ix_seq (pv 0) pe_int (fun _ _ => rfl)) (pa_cons (pe_ix ix_seq (pv 1) pe_int (fun _ _ => rfl)) pa_nil))))))))
end Sw
end

section
set_option Elab.async false
set_option autoImplicit false
set_option linter.all false
set_option maxRecDepth 100000
set_option maxHeartbeats 4000000
namespace Sw
open PySem PySem.Spec PyProof.Rows L2
theorem sc__law_drawn_deed : FnScope N__law_drawn_deed ["deck", "pool", "hands", "found"] (defScope s__law_drawn_deed) := ⟨rfl, rfl, rfl, nd__law_drawn_deed, rfl, by decide +kernel, by decide +kernel⟩
theorem ok__law_drawn_deed {G : Gx} {mg : Str → Option Value} {base : Heap} (T : Txt G.K mg) (h__law_draw : Dfn G.P G.w G.K mg base "_law_draw" ["deck", "many"] 1 (sp__law_draw G)) (h__law_pick : Dfn G.P G.w G.K mg base "_law_pick" ["deck", "some"] 2 (sp__law_pick G))
    (law : ∀ (B : Addr → Prop) (H : Hp) (ds : List D) (Q0 : D → Prop), ds.length = 4 → F__law_drawn_deed ds Q0 → WS ⟨G, B, H⟩ (t__law_drawn_deed G) (ent 5 ds) { nx := fun _ => Q0 .non, rt := Q0 }) : Dfn G.P G.w G.K mg base "_law_drawn_deed" ["deck", "pool", "hands", "found"] 3 (sp__law_drawn_deed G) := by
  obtain ⟨fd, F, hm⟩ := T.d__law_drawn_deed
  refine ⟨_, fd, hm, F.kp, F.bindsN (fun _ _ _ _ _ _ us hl => match us, hl with | [_, _, _, _], _ => rfl), F.ok sc__law_drawn_deed spD_len (fun cdv A outer s H vs Q E hr h => ⟨t__law_drawn_deed G, PSs.nox ?_, body_of (N := N__law_drawn_deed) (n := 4) (by decide) law h⟩)⟩
  exact (pss_cons (ps_set (i := 4) nd__law_drawn_deed rfl (Or.inl rfl) (pe_callD h__law_draw (hr.mono (by decide)) (pa_cons (pv 0) (pa_cons pe_int pa_nil))))
      (pss_cons (ps_if (PW.pt (pw_and (pt_cmpR (op_ltU hr.units0) (pv 4) pe_int (nomark _)) (pw_and1 (pt_cmpR (op_neD hr.units) (pv 3) (pe_lst pa_nil) (nomark _))))) (pss_one (ps_ret (pe_op op_addU (pe_tup (pa_cons pe_str pa_nil)) (pe_slice sl_U (pe_callD h__law_pick (hr.mono (by decide)) (pa_cons (pv 0) (pa_cons (pv 3) pa_nil))) po_none (po_some pe_int))))) pss_nil)
      (pss_cons (ps_if (pt_cmpR (op_eqD hr.units) (pv 4) pe_int (nomark _)) (pss_one (ps_ret (pe_tup (pa_cons pe_str (pa_cons (pe_callD h__law_draw (hr.mono (by decide)) (pa_cons (pv 0) (pa_cons (pe_op op_addU (pv 2) pe_int) pa_nil))) (pa_cons (pe_callD h__law_draw (hr.mono (by decide)) (pa_cons (pv 0) (pa_cons pe_int pa_nil))) pa_nil)))))) pss_nil)
      (pss_one (ps_ret (pe_tup (pa_cons (pe_callD h__law_pick (hr.mono (by decide)) (pa_cons (pv 0) (pa_cons (pe_lst (pa_cons pe_str (pa_cons pe_str (pa_cons pe_str pa_nil)))) pa_nil))) (pa_cons (pe_callD h__law_pick (hr.mono (by decide)) (pa_cons (pv 0) (pa_cons (pv 1) pa_nil))) pa_nil))))))))
end Sw
end

namespace Sw
open PySem PySem.Spec PyProof.Rows L2
local macro_rules | `(tactic| walk_at "w") => `(tactic| first
  | with_reducible refine ws_seq ?_ | with_reducible refine ws_ret ?_ | with_reducible refine ws_if ?_ | with_reducible refine ws_asg ?_ | with_reducible refine ws_asg2 ?_ | with_reducible refine ws_asg3 ?_ | with_reducible refine ws_asg4 ?_ | with_reducible refine ws_par ?_ | with_reducible refine ws_drop ?_ | with_reducible refine ws_next ?_ | with_reducible refine ws_break ?_ | with_reducible refine ws_cont ?_ | with_reducible refine ws_retN ?_
  | ((with_reducible refine we_var (x := ?x) _ ?h ?_); (case h => exact rfl)) | with_reducible refine we_neg ?_ | with_reducible refine we_op ?_ | with_reducible refine we_int ?_ | with_reducible refine we_str ?_ | with_reducible refine we_bl ?_ | with_reducible refine we_non ?_ | with_reducible refine we_ty ?_
  | with_reducible refine we_sl ?_ | with_reducible refine wo_none ?_ | with_reducible refine wo_some ?_ | with_reducible refine we_tup ?_ | with_reducible refine we_cb ?_ | with_reducible refine we_call ?_ | with_reducible refine wa_cons ?_ | with_reducible refine wa_nil ?_
  | with_reducible refine we_if ?_ | with_reducible refine we_and ?_ | with_reducible refine we_or ?_ | with_reducible refine we_not ?_ | with_reducible refine we_chain ?_ | with_reducible refine wa_star ?_ | with_reducible refine we_dnew ?_ | with_reducible refine we_din ?_ | with_reducible refine we_dget ?_
  | with_reducible refine wt_test ?_ | with_reducible refine wt_B ?_ | with_reducible refine wt_and ?_ | with_reducible refine wt_or ?_ | with_reducible refine wt_not ?_ | with_reducible refine wt_yes ?_ | with_reducible refine wg_name ?_ | with_reducible refine wg_tup rfl ?_ | with_reducible refine wgs_cons ?_ | with_reducible refine wgs_nil ?_ | with_reducible refine ift ?_ | with_reducible refine iff_ ?_ | with_reducible refine ⟨_, rfl, ?_⟩ | with_reducible refine ⟨_, _, rfl, ?_⟩ | with_reducible refine ⟨_, _, _, rfl, ?_⟩ | with_reducible refine ⟨_, _, _, _, rfl, ?_⟩)
local macro_rules | `(tactic| walk_at "ws") => `(tactic| repeat walk_at "w")

section
set_option Elab.async false
set_option autoImplicit false
set_option linter.all false
set_option maxRecDepth 100000
set_option maxHeartbeats 4000000
open PySem PySem.Spec PyProof.Rows L2
/-- a new deck as it is -/
def spDk (G : Gx) : Sp := fun vs H Q _ => ∃ (p : Addr) (xs : List Int), vs = [V.ref p] ∧ SqL G.K H p (xs.map V.int) ∧ G.tb H ∧
  ∀ (a b : Addr) (m : Int) (ys : List Int) (H' : Hp), a ≠ b → H a = none → H b = none → Ex G H H' → H' a = some (.dK (dkv b m 0)) → H' b = some (.lst (ys.map V.int)) → ys.length ≤ 1000 → Q (.ref a) H'
/-- .. as one closed thing -/
def spDkA (G : Gx) : Sp := fun vs H Q _ => ∃ (p : Addr) (xs : List Int), vs = [V.ref p] ∧ SqL G.K H p (xs.map V.int) ∧ G.tb H ∧ ∀ (a : Addr) (H' : Hp), Ex G H H' → G.dk H' a → Q (.ref a) H'
theorem wrap_deck {G : Gx} {mg : Str → Option Value} {base : Heap} {k : Nat} {f : Addr} {fd : FuncData} {ps : List Str} (hdk : ∀ H a, G.dk H a ↔ isDk G.P G.w H a) (htb : ∀ H a o o', H a = some o → MayWr G.P G.w a o → G.tb H → G.tb (upd H a o')) (hps : ps.length = 1) (F : FnOk G.P G.w G.K mg base CX0 k f fd ps (spDk G)) :
    FnOk G.P G.w G.K mg base CX0 k f fd ps (spDkA G) := by
  refine ⟨fun vs H Q E ⟨p, xs, e, _⟩ => by rw [hps, e]; rfl, fun A outer s H args us vs Q E hr e0 hb hv ⟨p, xs, ev, hs, tb, k⟩ => ?_⟩
  refine codeAny_mono (F.run A outer s H args us vs (fun v H' => ∃ (a b : Addr) (m : Int) (ys : List Int), v = .ref a ∧ a ≠ b ∧ H a = none ∧ H b = none ∧ Ex G H H' ∧ H' a = some (.dK (dkv b m 0)) ∧ H' b = some (.lst (ys.map V.int)) ∧ ys.length ≤ 1000) E hr e0 hb hv
    ⟨p, xs, ev, hs, tb, fun a b m ys H' n h1 h2 e h3 h4 h5 => ⟨a, b, m, ys, rfl, n, h1, h2, e, h3, h4, h5⟩⟩) fun r s' hr' => ?_
  cases r with
  | error e => exact hr'.elim
  | ok fl =>
    cases fl with
    | ret u =>
      obtain ⟨v, H', os, bare, un, hok', rel, a, b, m, ys, rfl, n, h1, h2, ex, h3, h4, h5⟩ := hr'
      have k2 : ∀ c, c ≠ a → c ≠ b → upd (upd H' a (DkA G.P G.w a b)) b (DkB b) c = H' c := fun c x y => by rw [upd_ne y, upd_ne x]
      have ne : ∀ c, H c ≠ none → c ≠ a ∧ c ≠ b := fun c h => ⟨fun z => h (z ▸ h1), fun z => h (z ▸ h2)⟩
      refine ⟨.ref a, _, os, bare, ⟨un.keep, un.slot, fun c ob e n' x => ?_, un.there, fun c xs e => ?_, fun c x y e => ?_, fun c x e => ?_⟩, close_hok hok' n h3 h4 h5, rel, k a _ ⟨fun c o e no => ?_, fun c e => ?_, fun t => ?_⟩ ((hdk _ _).mpr ⟨b, n, by rw [upd_ne n]; exact upd_same, upd_same⟩)⟩
      · have z := un.free c ob e n' x
        rw [k2 c (fun q => by rw [q, h3] at z; cases z) (fun q => by rw [q, h4] at z; cases z)]
        exact z
      · have z := ne c (by rw [e]; exact fun z => nomatch z)
        rw [k2 c z.1 z.2]
        exact un.tups c xs e
      · have z := ne c (by rw [e]; exact fun z => nomatch z)
        rw [k2 c z.1 z.2]
        exact un.frzs c x y e
      · have z := ne c (by rw [e]; exact fun z => nomatch z)
        rw [k2 c z.1 z.2]
        exact un.tbls c x e
      · have z := ne c (by rw [e]; exact fun z => nomatch z)
        rw [k2 c z.1 z.2]
        exact ex.k c o e no
      · by_cases cb : c = b
        · subst cb
          exact h2
        · by_cases ca : c = a
          · subst ca
            exact h1
          · rw [k2 c ca cb] at e
            exact ex.s c e
      · have t3 := htb H' a _ (DkA G.P G.w a b) h3 (.inl trivial) (ex.t t)
        exact htb _ b _ (DkB b) (show upd H' a (DkA G.P G.w a b) b = some (.lst (ys.map V.int)) by rw [upd_ne (Ne.symm n)]; exact h4) (.inl trivial) t3
    | next => exact hr'
    | brk => exact hr'
    | cont => exact hr'
theorem sql_ex {G : Gx} {K : PySem.W.Frag} {H H' : Hp} {a : Addr} {xs : List V} (e : Ex G H H') (h : SqL K H a xs) : SqL K H' a xs := by
  rcases h with (h | ⟨o, h⟩) | h
  · exact .inl (.inl (e.at h))
  · exact .inl (.inr ⟨o, e.at h⟩)
  · exact .inr h
theorem tC_run {v : V} {σ : L2.St} {H : Hp} {Q : VK} (h : Q v H) : tC v σ H Q := h
theorem fm_some' {α β : Type} (h : α → β) (xs : List α) : xs.filterMap (fun x => some (h x)) = xs.map h := by
  induction xs with
  | nil => rfl
  | cons x xs ih => simp [ih]
/-- the script's first cells -/
theorem wn_slF {S : Sc} {ρ : List Sl} (i : Nat) {p : Addr} {xs : List Int} {Q : List D → Prop} (hi : ρ[i]? = some (.d (.adr p))) (h0 : SqL S.G.K S.H0 p (xs.map V.int)) (q : Q ((xs.take 63).map D.int)) :
    WN S (tSl (rSlU S.G.K) (tVar i) tNoPart (tPart (tC (.int 63)))) ρ Q := fun σ H R Qv k => by
  obtain ⟨v, h1, h2⟩ := R.var hi
  cases h2
  refine ⟨.ref p, h1, 63, rfl, .inl ⟨p, _, rfl, sql_ex R.ex h0, fun l hl => ?_⟩⟩
  have r : DqL S.G (wth (hid S.B ρ) l) (upd H l (.lst (cutV (xs.map V.int) none (some 63)))) (cutV (xs.map V.int) none (some 63)) (cutD (xs.map D.int) none (some 63)) := dql_of_ints.cut _ _
  rw [cutD_map, show cutD xs none (some 63) = xs.take 63 from cutD_take xs 63] at r
  exact k l _ _ _ hl (Ex.new hl) upd_same r q
theorem law_deck {G : Gx} {vs : List V} {H : Hp} {Q : VK} {E : XK} (h : spDk G vs H Q E) : t__law_deck G { nx := fun _ H' => Q .non H', rt := Q } (L2.start N__law_deck vs) H := by
  obtain ⟨p, xs, rfl, hs, tb, k⟩ := h
  have R0 : Rho G (fun _ => False) H H (L2.start N__law_deck [.ref p]) (ent 3 [.adr p]) := rho_ent (N := N__law_deck) tb (fun _ z => z.elim) (.cons (.adr p) .nil) (show 1 ≤ 3 by decide)
  have w : WS ⟨G, fun _ => False, H⟩ (tSeq (tAsg (tC (.int 16385095)) (gName 1)) (tFor (iSeq G.K (tSl (rSlU G.K) (tVar 0) tNoPart (tPart (tC (.int 63))))) (gName 2) (tAsg (tOp rModU (tCB (rIntU) (tCons (tOp (rAddU G.K) (tOp (rAddU G.K) (tOp rMulU (tVar 1) (tC (.int 48271))) (tOp rModU (tCB (rIntU) (tCons (tVar 2) tNil)) (tC (.int 2147483629)))) (tC (.int 31))) tNil)) (tC (.int 2147483587))) (gName 1)))) (ent 3 [.adr p])
      { nx := fun ρ => ∃ (m : Int) (s : Sl), s.ads = [] ∧ ρ = [.d (.adr p), .d (.int m), s], rt := fun _ => False } := by
    iterate 3 walk_at "w"
    refine ws_for1 (α := Int) D.int (xs.take 63) (fun _ ρ => ∃ (m : Int) (s : Sl), s.ads = [] ∧ ρ = [.d (.adr p), .d (.int m), s]) (wi_seq (wn_slF 0 rfl hs ?_).e)
    refine ⟨_, rfl, rfl, ⟨_, _, rfl, rfl⟩, ?_, fun ρ' z => z⟩
    rintro zp z zq ρ' ez ⟨m, s, hs, rfl⟩
    walk_at "ws"
    refine rd_mul (.inr (by omega)) ?_
    walk_at "ws"
    refine rc_intI ?_
    walk_at "ws"
    refine rd_mod (by omega) ?_
    refine rd_addI ?_
    walk_at "ws"
    refine rd_addI ?_
    walk_at "ws"
    refine rc_intI ?_
    walk_at "ws"
    refine rd_mod (by omega) ?_
    exact ⟨_, .d (.int z), rfl, rfl⟩
  refine w (L2.start N__law_deck [.ref p]) H { nx := (tRet (tDisp (((tC (.str "left")), (tRevL G.K (tLc (iSeq G.K (tSl (rSlU G.K) (tVar 0) tNoPart (tPart (tC (.int 63))))) (gName 2) tYes (tCB (rIntU) (tCons (tVar 2) tNil)) [2]))) :: (((tC (.str "mixed")), (tVar 1)) :: (((tC (.str "draws")), (tC (.int 0))) :: []))))) { nx := fun _ H' => Q .non H', rt := Q }, rt := Q } R0 ⟨fun σ' H' ρ' R' _ z => ?_, fun _ _ _ _ _ z => z.elim, fun _ _ _ _ _ z => z.elim, fun _ _ _ _ _ z => z.elim⟩
  obtain ⟨m, s, hsa, rfl⟩ := z
  intro a ha
  have x1 : Ex G H' (upd H' a (.dK [])) := Ex.new ha
  have R1 := R'.hide x1 ha (by rw [upd_same]; exact fun z => nomatch z)
  have wn : WN (Sc.in ⟨G, fun _ => False, H⟩ a) (tRevL G.K (tLc (iSeq G.K (tSl (rSlU G.K) (tVar 0) tNoPart (tPart (tC (.int 63))))) (gName 2) tYes (tCB (rIntU) (tCons (tVar 2) tNil)) [2])) [.d (.adr p), .d (.int m), s] fun ds => ∃ ys : List Int, ds = ys.map D.int ∧ ys.length ≤ 1000 := by
    refine wn_rev ?_
    refine (wn_lc1 (α := Int) (S := Sc.in ⟨G, fun _ => False, H⟩ a) ⟨_, rfl, hsa⟩ (wi_seq (wn_slF (S := Sc.in ⟨G, fun _ => False, H⟩ a) 0 rfl hs ?_).e)).e
    refine ⟨_, rfl, xs.take 63, D.int, fun i => some (.int i), rfl, fun z hz p2 => ?_, ?_⟩
    · walk_at "ws"
      exact rc_intI rfl
    · refine ⟨_, rfl, (xs.take 63).reverse, ?_, ?_⟩
      · rw [fm_some' D.int, List.map_reverse]
      · rw [List.length_reverse, List.length_take]
        omega
  simp only [tPairs]
  refine tC_run ?_
  refine wn σ' (upd H' a (.dK [])) R1 _ fun b H2 us ds nb e2 hb r ⟨ys, ed, hl⟩ => ?_
  subst ed
  have hus := dql_ints r
  subst hus
  obtain ⟨v, hv1, hv2⟩ := (R1.mono e2).var (i := 1) rfl
  cases hv2
  refine ⟨.int m, hv1, e2.at upd_same, dkv b m 0, rfl, show 3 ≤ 15 by decide, ?_⟩
  have nba : b ≠ a := fun q => by
    rw [q, upd_same] at nb
    cases nb
  have e02 : Ex G H H2 := R'.ex.trans (x1.trans e2)
  have ea : H2 a = some (.dK []) := e2.at upd_same
  have em : mergeK [] (dkv b m 0) = dkv b m 0 := by rfl
  rw [em]
  refine k a b m ys _ (Ne.symm nba) (R'.ex.s a ha) ?_ (e02.wr (R'.ex.s a ha) ea trivial) upd_same (by rw [upd_ne nba]; exact hb) hl
  rw [upd_ne nba] at nb
  exact R'.ex.s b nb
end

section
set_option Elab.async false
set_option autoImplicit false
set_option linter.all false
set_option maxRecDepth 100000
set_option maxHeartbeats 4000000
open PySem PySem.Spec PyProof.Rows L2 LamX
theorem heap_with (c : Addr) (o : Obj) (ho : o.isFreed = false) : ∃ h : Heap, h.get? c = some o := by
  have key : ∀ n : Nat, ∃ h : Heap, h.objs.size = n := fun n => by
    induction n with
    | zero => exact ⟨{ objs := #[] }, rfl⟩
    | succ n ih =>
      obtain ⟨h, e⟩ := ih
      exact ⟨h.push o, by rw [Heap.size_push, e]⟩
  obtain ⟨h, e⟩ := key c
  exact ⟨h.push o, by rw [← e]; exact Heap.get?_push_size _ ho⟩
theorem ext_eq {φ ψ : Heap → Prop} (e : HO.ext φ = HO.ext ψ) (h : Heap) : φ h → ψ h := by
  cases e
  exact id
def coO (q : Str) : Obj := { cls := .type "code", data := .fields #[.none, .str q 0] }
theorem code_not_dkA {P : Program} {w : World} {c b : Addr} {q : Str} (e : CodeO c q = DkA P w c b) : False := by
  obtain ⟨h, g⟩ := heap_with c (coO q) rfl
  obtain ⟨_, m, d, vs, _, o, es, ep, ho, _, hd, _⟩ := ext_eq e h ⟨coO q, #[.none, .str q 0], 0, g, rfl, rfl⟩
  rw [g] at ho
  cases ho
  cases hd
theorem code_not_dkB {c : Addr} {q : Str} (e : CodeO c q = DkB c) : False := by
  obtain ⟨h, g⟩ := heap_with c (coO q) rfl
  obtain ⟨xs, its, n, _, _, ho⟩ := ext_eq e h ⟨coO q, #[.none, .str q 0], 0, g, rfl, rfl⟩
  rw [g] at ho
  have z : (coO q).data = Data.seq its.toArray n := congrArg Obj.data (Option.some.inj ho)
  cases z
/-- what is written leaves the table as it is -/
theorem tabS_upd {P : Program} {w : World} {H : Hp} {T a : Addr} {q : Str} {o o' : HO} (h : H a = some o) (m : MayWr P w a o) (t : TabS H T q) : TabS (upd H a o') T q := by
  obtain ⟨ps, h1, h2, h3⟩ := t
  refine ⟨ps, ?_, h2, fun pos cv hc => ?_⟩
  · rw [upd_ne fun e => ?_]
    · exact h1
    · subst e
      rw [h1] at h
      cases h
      rcases m with m | ⟨b, m⟩ | m
      · exact m
      · cases m
      · cases m
  · obtain ⟨c, e1, e2⟩ := h3 pos cv hc
    refine ⟨c, e1, ?_⟩
    rw [upd_ne fun e => ?_]
    · exact e2
    · subst e
      rw [e2] at h
      cases h
      rcases m with m | ⟨b, m⟩ | m
      · exact m
      · exact code_not_dkA m
      · exact code_not_dkB m
/-- the ghost of a text with one lambda -/
def gxT (P : Program) (w : World) (K : PySem.W.Frag) (T : Addr) (q : Str) : Gx where
  P := P
  w := w
  K := K
  dk := isDk P w
  tb := fun H => TabS H T q
  tbx := fun _ _ e t => t.ext e
  tbw := fun _ _ _ _ h m t => tabS_upd (P := P) (w := w) h (.inl m) t
  dke := fun _ _ _ e d => isDk_keep e d
end

section
set_option Elab.async false
set_option autoImplicit false
set_option linter.all false
set_option maxRecDepth 100000
set_option maxHeartbeats 4000000
open PySem PySem.Spec PyProof.Rows L2
/-- f(k = v, ..), the keywords written from the last parameter to the first -/
def tCallR (m : Nat) (sp : Sp) (tk : TA) : TE := fun σ H Q => tk σ H fun zs H1 => zs.length = m ∧ sp zs.reverse H1 Q E0
theorem vals_rev : ∀ {vs : List V} {us : List Value}, Vals vs us → Vals vs.reverse us.reverse
  | _, _, .nil => .nil
  | _, _, .cons h r => by
    rw [List.reverse_cons, List.reverse_cons]
    exact (vals_rev r).append (.cons h .nil)
/-- what a caller by keywords needs -/
def DfnR (P : Program) (w : World) (K : PySem.W.Frag) (mg : Str → Option Value) (base : Heap) (x : Str) (ps ks : List Str) (k : Nat) (sp : Sp) : Prop :=
  ∃ (f : Addr) (fd : FuncData), mg x = some (.ref f) ∧ PySem.W.keepIn K (.ref f) = true ∧ (∀ (s : Shared) (ws : List Value), ws.length = ks.length → BindsTo s fd ⟨[], ks.zip ws⟩ (ps.zip ws.reverse)) ∧ FnOk P w K mg base CX0 k f fd ps sp
theorem pe_callR {X : Cx} {x : Str} {ps ks : List Str} {k m : Nat} {sp : Sp} {p pos : Pos} {kws : List Keyword} {tk : TA} (h : DfnR X.prog X.w X.K X.mg X.base x ps ks k sp) (hr : Room k X.A) (hkw : PK X kws tk) (hg : Gl X x := by rfl)
    (hall : (backToKw pos (keywordEach kws X.env)).all (·.1.isSome) = true := by rfl) (hks : (backToKw pos (keywordEach kws X.env)).filterMap (·.1) = ks := by rfl) (hdb : (x == ("__debug__" : Str)) = false := by decide)
    (hpl : ((backTo pos (starEach [] X.env)).any (·.1) || (backToKw pos (keywordEach kws X.env)).any (·.1.isNone)) = false := by rfl) (hn : ks.length = m := by rfl) : PE X (.Call (.Name x p) [] kws pos) (tCallR m sp tk) := by
  subst hn
  obtain ⟨f, fd, hm, kp, b, F⟩ := h
  exact pe_callK0 (gV := List.reverse) (g := List.reverse) hm kp F hr b (fun _ r => vals_rev r) hkw hg hall hks hdb hpl
section
variable {S : Sc} {ρ : List Sl} {ta tb te : TE} {tk : TA}
theorem we_callR {n m : Nat} {F : FD} {Q : D → Prop} (h : WA S tk ρ fun ds => ds.length = m ∧ m = n ∧ F ds.reverse Q) : WE S (tCallR m (spD S.G n F) tk) ρ Q := fun σ H R Qv k =>
  h σ H R _ fun vs H1 ds e1 q1 ⟨hl, hn, hF⟩ => ⟨by rw [q1.length]; exact hl, _, ds.reverse, Q, e1.t R.tb, R.alc.mono e1, q1.reverse, by rw [List.length_reverse]; omega, hF, fun d v H2 hq e2 qd => k v H2 d (e1.trans e2) qd hq⟩
/-- x == y, instances of the class at C -/
theorem we_eqI {C : Addr} {F : FD} {Q : D → Prop} (h : WE S ta ρ fun x => WE S tb ρ fun y => ∃ fs gs, x = .ins C fs ∧ y = .ins C gs ∧ F [x, y] fun d => (∃ c, d = .bl c) ∧ Q d) : WE S (tOp (rEqI C (spD S.G 2 F)) ta tb) ρ Q := fun σ H R Qv k =>
  h σ H R _ fun v H1 x e1 q1 h2 => h2 σ H1 (R.mono e1) _ fun u H2 y e2 q2 ⟨fs, gs, ex, ey, hF⟩ => by
    subst ex ey
    have q1' := q1.mono e2
    obtain ⟨a, dx, us, rfl, ha, _, _, _⟩ := dq_ins q1'
    obtain ⟨b, dy, ws, rfl, hb, _, _, _⟩ := dq_ins q2
    have e12 := e1.trans e2
    exact ⟨a, b, dx, dy, us, ws, rfl, rfl, ha, hb, hid S.B ρ, _, _, e12.t R.tb, R.alc.mono e12, .cons q1' (.cons q2 .nil), rfl, hF, fun d v H3 hq e3 qd => by
      obtain ⟨⟨c, ec⟩, hq⟩ := hq
      subst ec
      exact ⟨⟨c, dq_bl qd⟩, k v H3 _ (e12.trans e3) qd hq⟩⟩
end
section
variable {G : Gx}
/-- isinstance(x, C) of an instance of C -/
theorem rc_isiC {C : Addr} {fs : List (Str × D)} {Q : D → Prop} (hi : ∀ {H : Hp} {a dx : Addr} {fs : List (Str × V)}, H a = some (.ins C dx fs) → TyX G.K H (.ref a) (.ref C)) (hk : PySem.W.kitOne G.K (.ref C) (.ref C) = some true) (q : Q (.bl true)) :
    RC G (rIsi G.K) [.ins C fs, .adr C] Q := fun Bh H vs al h Qv k => by
  cases h with
  | cons h hh => cases hh with
  | cons h2 hh =>
  cases hh
  cases h2
  obtain ⟨a, dx, us, rfl, ha, _, _, _⟩ := dq_ins h
  exact ⟨.ref a, .ref C, .ref C, .ref C, true, rfl, .own C, hi ha, hk, k _ H _ (Ex.refl H) (.bl true) q⟩
-- data whose whole numbers are short to write
mutual
def shD : D → Bool
  | .int i => decide (i.natAbs ≤ 1000000)
  | .tup xs => shDs xs
  | .lst xs => shDs xs
  | _ => true
def shDs : List D → Bool
  | [] => true
  | d :: ds => shD d && shDs ds
end
theorem shDs_all : ∀ {ds : List D}, shDs ds = true ↔ ∀ d ∈ ds, shD d = true
  | [] => by simp [shDs]
  | d :: ds => by
    have h := shDs_all (ds := ds)
    simp only [shDs, Bool.and_eq_true, List.mem_cons, forall_eq_or_imp, h]
theorem log2_sh {i : Int} (h : i.natAbs ≤ 1000000) : i.natAbs.log2 < 20 := by
  by_cases z : i.natAbs = 0
  · rw [z]
    decide
  · exact (Nat.log2_lt z).mpr (by omega)
mutual
theorem shD_py : ∀ (n : Nat) (d : D), okD n d = true → shD d = true → (pyT d).showable = true ∧ (pyT d).intsShort 13 = true
  | n, .non, _, _ => by simp [pyT, PyData.showable, PyData.intsShort]
  | n, .int i, _, h => by
    have h' : i.natAbs ≤ 1000000 := by simpa [shD] using h
    have l := log2_sh h'
    refine ⟨by simp [pyT, PyData.showable]; omega, ?_⟩
    simp only [pyT, PyData.intsShort, decide_eq_true_eq]
    exact PyData.shown_int_le (by omega)
  | n, .str x, _, _ => by simp [pyT, PyData.showable, PyData.intsShort]
  | n + 1, .tup xs, h, h2 => by
    obtain ⟨a, b⟩ := shDs_py n xs (by simpa [okD] using h) (by simpa [shD] using h2)
    exact ⟨by simpa [pyT, PyData.showable] using a, by simpa [pyT, PyData.intsShort] using b⟩
  | n + 1, .lst xs, h, h2 => by
    obtain ⟨a, b⟩ := shDs_py n xs (by simpa [okD] using h) (by simpa [shD] using h2)
    exact ⟨by simpa [pyT, PyData.showable] using a, by simpa [pyT, PyData.intsShort] using b⟩
  | 0, .tup xs, h, _ => by simp [okD] at h
  | 0, .lst xs, h, _ => by simp [okD] at h
  | n, .bl b, h, _ => by cases n <;> simp [okD] at h
  | n, .dct b, h, _ => by cases n <;> simp [okD] at h
  | n, .ins _ b, h, _ => by cases n <;> simp [okD] at h
  | n, .adr b, h, _ => by cases n <;> simp [okD] at h
  | n, .ty b, h, _ => by cases n <;> simp [okD] at h
  | n, .dk, h, _ => by cases n <;> simp [okD] at h
  | n, .any, h, _ => by cases n <;> simp [okD] at h
theorem shDs_py : ∀ (n : Nat) (ds : List D), okDs n ds = true → shDs ds = true → PyData.showableAll (pyTs ds) = true ∧ PyData.intsShortAll 13 (pyTs ds) = true
  | n, [], _, _ => by simp [pyTs, PyData.showableAll, PyData.intsShortAll]
  | n, d :: ds, h, h2 => by
    have h' : okD n d = true ∧ okDs n ds = true := by simpa [okDs] using h
    have h2' : shD d = true ∧ shDs ds = true := by simpa [shDs] using h2
    obtain ⟨a, b⟩ := shD_py n d h'.1 h2'.1
    obtain ⟨a2, b2⟩ := shDs_py n ds h'.2 h2'.2
    exact ⟨by simp [pyTs, PyData.showableAll, a, a2], by simp [pyTs, PyData.intsShortAll, b, b2]⟩
end
/-- repr(x) of a tuple -/
theorem rc_repr (n : Nat) {xs : List D} {Q : D → Prop} (ok : okD n (.tup xs) = true) (sh : shD (.tup xs) = true) (hw : (pyT (.tup xs)).weight ≤ 2 ^ 20) (q : Q (.str (pyT (.tup xs)).shown)) (hn : n ≤ 50 := by decide) : RC G (rRepr G.K) [.tup xs] Q := fun Bh H vs al h Qv k => by
  cases h with
  | cons h hh =>
  cases hh
  obtain ⟨h1, h2, h3⟩ := okD_py n (.tup xs) ok
  obtain ⟨s1, s2⟩ := shD_py n (.tup xs) ok sh
  have dp := h.dp h1
  obtain ⟨a, us, rfl, ht, r⟩ := dq_tup h
  have lay : PyData.layable0 (pyT (.tup xs)) = true := by
    show (PyData.canLay0 _ && decide (PyData.depth _ ≤ 64) && decide (PyData.weight _ ≤ 2 ^ 20)) = true
    rw [h2, decide_eq_true (by omega), decide_eq_true hw]
    rfl
  exact ⟨a, pyT (.tup xs), rfl, dp, s1, PyData.hasDict_of_canLay _ h2, by omega, PyData.shown_fits_of_layable0 (B := 13) (by decide) (by decide) lay s2, k _ H _ (Ex.refl H) (.str _) q⟩
end
end

section
set_option Elab.async false
set_option autoImplicit false
set_option linter.all false
set_option maxRecDepth 100000
set_option maxHeartbeats 4000000
open PySem PySem.Spec PyProof.Rows L2
theorem sc__law_draw : FnScope N__law_draw ["deck", "many"] (defScope s__law_draw) := ⟨rfl, rfl, rfl, nd__law_draw, rfl, by decide +kernel, by decide +kernel⟩
theorem ok__law_draw {G : Gx} {mg : Str → Option Value} {base : Heap} (T : Txt G.K mg) (hdk : ∀ H a, G.dk H a ↔ isDk G.P G.w H a) (htb : ∀ H a o o', H a = some o → MayWr G.P G.w a o → G.tb H → G.tb (upd H a o')) :
    Dfn G.P G.w G.K mg base "_law_draw" ["deck", "many"] 1 (spD G 2 F_draw) := by
  obtain ⟨fd, F, hm⟩ := T.d__law_draw
  refine ⟨_, fd, hm, F.kp, F.bindsN (fun _ _ _ _ _ _ us hl => match us, hl with | [_, _], _ => rfl), wrap_draw hdk htb rfl (F.ok sc__law_draw (fun vs H Q E h => ?_) (fun cdv A outer s H vs Q E hr h => ⟨t__law_draw G, PSs.nox ?_, law_draw h⟩))⟩
  · obtain ⟨a, b, m, d, xs, many, e, _⟩ := h
    rw [e]
    rfl
  · exact (pss_cons (ps_dput (hu_of hr) (pv 0) pe_str (pe_op op_addU (pe_dget (hu_of hr) (pv 0) pe_str (fun _ _ => rfl)) pe_int) rfl)
      (pss_cons (ps_set (i := 2) nd__law_draw rfl (Or.inl rfl) (pe_op op_addU (pe_dget (hu_of hr) (pv 0) pe_str (fun _ _ => rfl)) (pe_op op_mulU pe_int (pe_dget (hu_of hr) (pv 0) pe_str (fun _ _ => rfl)))))
      (pss_cons (ps_if (pt_cmpR (op_neD hr.units) (pe_dget (hu_of hr) (pv 0) pe_str (fun _ _ => rfl)) (pe_lst pa_nil) (nomark _)) (pss_cons (ps_set (i := 3) nd__law_draw rfl (Or.inl rfl) (pe_bm0 PySem.F.plainAttrs_list PySem.F.slot_list_pop PySem.F.type_list_pop mt_pop (pe_dget (hu_of hr) (pv 0) pe_str (fun _ _ => rfl))))
      (pss_cons (ps_if (pt_cmpR op_geU (pv 3) (pe_op op_powU pe_int pe_int) (nomark _)) (pss_cons (ps_expr (pe_bm PySem.F.plainAttrs_list PySem.F.slot_list_append PySem.F.type_list_append mt_append (pe_dget (hu_of hr) (pv 0) pe_str (fun _ _ => rfl)) (pa_cons (pe_op op_divU (pv 3) (pe_callB (call_max2 rfl) (by rfl) T.free_max (by decide +kernel) (pa_cons pe_int (pa_cons (pv 1) pa_nil)))) pa_nil)))
      (pss_one (ps_ret (pe_op op_modU (pe_callTy call_int1 (by rfl) T.free_int (by decide +kernel) (pa_cons (pv 3) pa_nil)) (pv 1))))) pss_nil)
      (pss_one (ps_set (i := 2) nd__law_draw rfl (Or.inl rfl) (pe_op op_addU (pv 2) (pe_op op_modU (pe_callTy call_int1 (by rfl) T.free_int (by decide +kernel) (pa_cons (pv 3) pa_nil)) pe_int)))))) pss_nil)
      (pss_cons (ps_set (i := 2) nd__law_draw rfl (Or.inl rfl) (pe_op op_modU (pe_callTy call_int1 (by rfl) T.free_int (by decide +kernel) (pa_cons (pe_op op_addU (pe_op op_mulU (pv 2) pe_int) pe_int) pa_nil)) pe_int))
      (pss_cons (ps_set (i := 2) nd__law_draw rfl (Or.inl rfl) (pe_op op_modU (pe_callTy call_int1 (by rfl) T.free_int (by decide +kernel) (pa_cons (pe_op op_addU (pe_op op_addU (pe_op op_mulU (pv 2) (pv 2)) (pe_op op_mulU pe_int (pe_dget (hu_of hr) (pv 0) pe_str (fun _ _ => rfl)))) pe_int) pa_nil)) pe_int))
      (pss_cons (ps_set (i := 2) nd__law_draw rfl (Or.inl rfl) (pe_op op_modU (pe_callTy call_int1 (by rfl) T.free_int (by decide +kernel) (pa_cons (pe_op op_mulU (pv 2) pe_int) pa_nil)) pe_int))
      (pss_one (ps_ret (pe_op op_modU (pe_callTy call_int1 (by rfl) T.free_int (by decide +kernel) (pa_cons (pe_op op_divU (pv 2) pe_int) pa_nil)) (pv 1))))))))))
theorem sc__law_deck : FnScope N__law_deck ["script"] (defScope s__law_deck) := ⟨rfl, rfl, rfl, nd__law_deck, rfl, by decide +kernel, by decide +kernel⟩
theorem ok__law_deck {G : Gx} {mg : Str → Option Value} {base : Heap} (T : Txt G.K mg) (hdk : ∀ H a, G.dk H a ↔ isDk G.P G.w H a) (htb : ∀ H a o o', H a = some o → MayWr G.P G.w a o → G.tb H → G.tb (upd H a o')) :
    Dfn G.P G.w G.K mg base "_law_deck" ["script"] 1 (spDkA G) := by
  obtain ⟨fd, F, hm⟩ := T.d__law_deck
  refine ⟨_, fd, hm, F.kp, F.bindsN (fun _ _ _ _ _ _ us hl => match us, hl with | [_], _ => rfl), wrap_deck hdk htb rfl (F.ok sc__law_deck (fun vs H Q E h => ?_) (fun cdv A outer s H vs Q E hr h => ⟨t__law_deck G, PSs.nox ?_, law_deck h⟩))⟩
  · obtain ⟨p, xs, e, _⟩ := h
    rw [e]
    rfl
  · exact (pss_cons (ps_set (i := 1) nd__law_deck rfl (Or.inl rfl) pe_int)
      (pss_cons (ps_for PassesOwn.never rfl (pi_seq (pe_slice sl_U (pv 0) po_none (po_some pe_int))) (pg_name (i := 2) nd__law_deck rfl (Or.inl rfl)) (pss_one (ps_set (i := 1) nd__law_deck rfl (Or.inl rfl) (pe_op op_modU (pe_callTy call_int1 (by rfl) T.free_int (by decide +kernel) (pa_cons (pe_op op_addU (pe_op op_addU (pe_op op_mulU (pv 1) pe_int) (pe_op op_modU (pe_callTy call_int1 (by rfl) T.free_int (by decide +kernel) (pa_cons (pv 2) pa_nil)) pe_int)) pe_int) pa_nil)) pe_int))))
      (pss_one (ps_ret (pe_disp (pps_cons pe_str (pe_revL (pe_lc (own := [("cell", 2)]) (g := (gName 2)) (tt := tYes) rfl nd__law_deck (pi_seq (pe_slice sl_U (pv 0) po_none (po_some pe_int))) (blkOk_by (own := [("cell", 2)]) (N := N__law_deck) (sc := defScope s__law_deck) (by decide +kernel)) (fun _ _ _ _ _ => (pg_name (i := 2) nd__law_deck rfl (Or.inl rfl))) (fun _ _ _ _ _ => pts_nil) (fun _ _ _ _ _ => (pe_callTy call_int1 (by rfl) T.free_int (by decide +kernel) (pa_cons (pv 2) pa_nil))))) (pps_cons pe_str (pv 1) (pps_cons pe_str pe_int pps_nil))) (by rfl) (by rfl) (fun z => by cases z) (by decide))))))
end

section
set_option Elab.async false
set_option autoImplicit false
set_option linter.all false
set_option maxRecDepth 100000
set_option maxHeartbeats 4000000
open PySem PySem.Spec PyProof.Rows L2
theorem cut_Tp (p : List Key) (lo hi : Option Int) : cutD (p.map kD) lo hi = (cutD p lo hi).map kD := cutD_map kD p lo hi
theorem sOk_T : sOk "T" := by decide +kernel
section
variable {G : Gx} {B : Addr → Prop} {H : Hp}
theorem law_put (ds : List D) (Q : D → Prop) (hl : ds.length = 2) (h : F_put ds Q) : WS ⟨G, B, H⟩ (t_put G) (ent 2 ds) { nx := fun _ => Q .non, rt := Q } := by
  obtain ⟨p, t, rfl, hp, ok, hz, q⟩ := h
  unfold t_put
  walk_at "ws"
  refine rd_ixT (d := kD (p.getLast hp)) (by rw [atI_map, atI_m1 hp] <;> rfl) ?_
  walk_at "ws"
  refine rd_eqKS (ok _ (List.getLast_mem hp)) sOk_T ?_
  walk_at "ws"
  refine ifd (fun e => ?_) fun e => ?_
  · walk_at "ws"
    refine rs_tup ?_
    walk_at "ws"
    rw [cut_Tp, cutD_last]
    refine rd_addT (le_line ?_) ?_
    · simp only [List.length_map, List.length_dropLast]; omega
    · rw [← List.map_append]
      have e2 : putT p t = p.dropLast ++ t := if_pos (by rw [List.getLast?_eq_some_getLast hp, e]; rfl)
      rw [e2] at q
      exact q
  · walk_at "ws"
    have e2 : putT p t = p := if_neg (by rw [List.getLast?_eq_some_getLast hp]; intro z; exact e (Option.some.inj z))
    rw [e2] at q
    exact q
theorem sOk_T' : kOk hole := sOk_T
theorem len1 (n : Nat) (h : n ≤ 100000 := by decide) : n ≤ sizeLine := le_line h
theorem law_is_unknown (ds : List D) (Q : D → Prop) (hl : ds.length = 1) (h : F_is_unknown ds Q) : WS ⟨G, B, H⟩ (t_is_unknown G) (ent 1 ds) { nx := fun _ => Q .non, rt := Q } := by
  obtain ⟨p, rfl, hp, q⟩ := h
  unfold t_is_unknown
  walk_at "ws"
  refine rd_ixT (d := kD (p.getLast hp)) (by rw [atI_map, atI_m1 hp] <;> rfl) ?_
  walk_at "ws"
  refine rc_isi (b := isInl (p.getLast hp)) (by decide) ?_ q
  cases p.getLast hp <;> rfl
theorem valD_bD (b : Bd) (k : Key) : valD (b.map fun p => ((Sum.inl p.1 : Key), Tp p.2)) k = (lk b k).map Tp := by
  cases k with
  | inl i =>
    unfold valD lk
    rw [List.find?_map, Option.map_map, Option.map_map]
    have e : ((fun p : Key × D => decide (p.1 = Sum.inl i)) ∘ fun p : Int × List Key => ((Sum.inl p.1 : Key), Tp p.2)) = fun p => decide (p.1 = i) := by
      funext p
      simp
    rw [e]
    rfl
  | inr s =>
    unfold valD lk
    have e : (b.map fun p => ((Sum.inl p.1 : Key), Tp p.2)).find? (fun p => decide (p.1 = Sum.inr s)) = none := by
      rw [List.find?_eq_none]
      intro x hx
      obtain ⟨p, _, rfl⟩ := List.mem_map.mp hx
      simp
    rw [e]
    rfl
theorem tl_last {p : List Key} (hp : p ≠ []) : tl p = some (p.getLast hp) := List.getLast?_eq_some_getLast hp
theorem tOk_app {a b : List Key} (ha : tOk a) (hb : tOk b) : tOk (a ++ b) := fun k hk => by
  rcases List.mem_append.mp hk with h | h
  · exact ha k h
  · exact hb k h
theorem tOk_dropLast {a : List Key} (ha : tOk a) : tOk a.dropLast := fun k hk => ha k ((List.dropLast_subset a) hk)
theorem law_resolved (ds : List D) (Q : D → Prop) (hl : ds.length = 2) (h : F_resolved ds Q) : WS ⟨G, B, H⟩ (t_resolved G) (ent 3 ds) { nx := fun _ => Q .non, rt := Q } := by
  obtain ⟨P, p, b, rfl, kp, kb, hP, q⟩ := h
  unfold t_resolved
  walk_at "ws"
  have hbl : b.length ≤ 2 := Bk.le2 kb
  have hbP : b.length * P ≤ 2000 := by
    have := Nat.mul_le_mul hbl hP
    omega
  refine ws_while (m0 := rk b (p.getLast kp.tm.1)) (fun m ρ => ∃ r, ρ = [.d (Tp p), .d (bD b), .d (Tp r)] ∧ ∃ hr : Tm r, tOk r ∧ uOk r ∧ m = rk b (r.getLast hr.1) ∧ r.length + m * (b.length * P) ≤ P + b.length * (b.length * P) ∧ ∀ θ, Sol θ b → ap θ r = ap θ p)
    ⟨p, rfl, kp.tm, kp.ok, kp.u, rfl, ?_, fun _ _ => rfl⟩ ?_
  · have h1 := rk_le b (p.getLast kp.tm.1)
    have h2 := kp.len
    have h3 := Nat.mul_le_mul_right (b.length * P) h1
    omega
  · rintro m ρ' ⟨r, rfl, hr, ok, hu, rfl, hle, hs⟩
    have hne : r ≠ [] := hr.1
    have fin : ∀ {c : Bool}, (free b r) → WS ⟨G, B, H⟩ (tRet (tVar 2)) [.d (Tp p), .d (bD b), .d (Tp r)] { nx := fun _ => Q .non, rt := Q } := fun {c} hf => by
      walk_at "ws"
      exact q r ⟨hr, ok, hu, by omega⟩ hf hs
    walk_at "ws"
    refine ⟨rfl, r, rfl, hne, ?_⟩
    cases e : r.getLast hne with
    | inr s =>
      refine ⟨_, rfl, iff_ (iff_ ?_)⟩
      refine fin (c := true) fun i hi => ?_
      rw [tl_last hne, e] at hi
      cases hi
    | inl i =>
      refine ⟨_, rfl, ift ?_⟩
      walk_at "ws"
      refine rd_ixT (d := kD (r.getLast hne)) (by rw [atI_map, atI_m1 hne] <;> rfl) ?_
      walk_at "ws"
      refine ⟨r.getLast hne, _, rfl, rfl, ?_⟩
      rw [valD_bD, e]
      cases e2 : lk b (.inl i) with
      | none =>
        refine ⟨_, rfl, iff_ ?_⟩
        refine fin (c := true) fun j hj => ?_
        rw [tl_last hne, e] at hj
        cases hj
        exact lk_none e2
      | some t =>
        refine ⟨_, rfl, ift ?_⟩
        have hm := lk_mem e2
        obtain ⟨kt, _⟩ := kb.rows _ hm
        have tt : Tm t := kt.tm
        walk_at "ws"
        refine rs_tup ?_
        walk_at "ws"
        refine rd_ixT (d := kD (r.getLast hne)) (by rw [atI_map, atI_m1 hne] <;> rfl) ?_
        refine ⟨r.getLast hne, _, Tp t, rfl, rfl, by rw [valD_bD, e, e2]; rfl, ?_⟩
        rw [cut_Tp, cutD_last]
        have hlt : t.length ≤ b.length * P := kt.len
        have hrl : r.length ≤ 10000 := by
          have := Nat.mul_le_mul_right (b.length * P) hbl
          omega
        refine rd_addT (le_line ?_) ?_
        · simp only [List.length_map, List.length_dropLast]
          omega
        · rw [← List.map_append]
          have er : r = r.dropLast ++ [.inl i] := by
            have := (List.dropLast_concat_getLast hne).symm
            rwa [e] at this
          have tt' : Tm (r.dropLast ++ t) := by
            rw [er] at hr
            rw [er, List.dropLast_concat]
            exact hr.app tt
          have el : (r.dropLast ++ t).getLast tt'.1 = t.getLast tt.1 := List.getLast_append_of_ne_nil _ tt.1
          have lt2 : rk b (t.getLast tt.1) < rk b (.inl i) := rk_lt kb.wf hm (tl_last tt.1)
          have lt : rk b (t.getLast tt.1) < rk b (r.getLast hne) := by
            rw [e]
            exact lt2
          refine ⟨_, lt2, _, rfl, tt', tOk_app (tOk_dropLast ok) kt.ok, ?_, by rw [el], ?_, fun θ hθ => ?_⟩
          · intro j hj
            rw [tl_last tt'.1, el, ← tl_last tt.1] at hj
            exact kt.u j hj
          · rw [List.length_append, List.length_dropLast]
            have h1 := Nat.mul_le_mul_right (b.length * P) lt
            rw [Nat.succ_mul] at h1
            omega
          · rw [← hs θ hθ]
            conv => rhs; rw [er]
            rw [ap_app θ _ tt.1, ap_u, hθ _ hm]
theorem law_differing (ds : List D) (Q : D → Prop) (hl : ds.length = 2) (h : F_differing ds Q) : WS ⟨G, B, H⟩ (t_differing G) (ent 4 ds) { nx := fun _ => Q .non, rt := Q } := by
  obtain ⟨p, q, rfl, hp, hq, okp, okq, lp, lq, k⟩ := h
  have p0 : 0 < p.length := List.length_pos_iff.mpr hp
  have q0 : 0 < q.length := List.length_pos_iff.mpr hq
  unfold t_differing
  walk_at "ws"
  refine rc_lenT ?_
  walk_at "ws"
  refine rc_lenT ?_
  walk_at "ws"
  rw [List.length_map, List.length_map]
  refine rc_min ?_
  obtain ⟨n, hn, hs⟩ : ∃ n : Nat, (if (q.length : Int) < (p.length : Int) then (q.length : Int) else (p.length : Int)) = (n : Int) ∧ (n ≤ p.length ∧ n ≤ q.length ∧ (n = p.length ∨ n = q.length)) := by
    by_cases e : (q.length : Int) < (p.length : Int)
    · exact ⟨q.length, by rw [if_pos e], by omega⟩
    · exact ⟨p.length, by rw [if_neg e], by omega⟩
  rw [hn]
  walk_at "ws"
  refine ws_while (m0 := n - 0) (fun m ρ => ∃ j : Nat, ρ = [.d (Tp p), .d (Tp q), .d (.int n), .d (.int j)] ∧ m = n - j ∧ j < n ∧ p.take j = q.take j) ⟨0, rfl, rfl, by omega, rfl⟩ ?_
  rintro m ρ' ⟨j, rfl, rfl, hj, he⟩
  have fin : (j + 1 = n ∨ p[j]? ≠ q[j]?) → WS ⟨G, B, H⟩ (tRet (tTup (tCons (tSl (rSlU G.K) (tVar 0) (tPart (tVar 3)) tNoPart) (tCons (tSl (rSlU G.K) (tVar 1) (tPart (tVar 3)) tNoPart) tNil)))) [.d (Tp p), .d (Tp q), .d (.int n), .d (.int j)] { nx := fun _ => Q .non, rt := Q } := fun st => by
    walk_at "ws"
    refine rs_tup ?_
    walk_at "ws"
    refine rs_tup ?_
    walk_at "ws"
    rw [cut_Tp, cut_Tp, cutD_drop, cutD_drop]
    refine ⟨len1 2, k j ⟨by omega, by omega, he, ?_⟩⟩
    rcases st with st | st
    · rcases hs.2.2 with e | e
      · exact .inl (by omega)
      · exact .inr (.inl (by omega))
    · exact .inr (.inr st)
  walk_at "ws"
  refine rd_sub ?_
  refine rd_lt ?_
  refine ⟨_, rfl, ifd (fun h1 => ?_) fun h1 => ?_⟩
  · have hp1 : p[j]? = some p[j] := List.getElem?_eq_getElem (by omega)
    have hq1 : q[j]? = some q[j] := List.getElem?_eq_getElem (by omega)
    walk_at "ws"
    refine rd_ixT (d := kD p[j]) (atI_n (by rw [List.getElem?_map, hp1] <;> rfl)) ?_
    walk_at "ws"
    refine rd_ixT (d := kD q[j]) (atI_n (by rw [List.getElem?_map, hq1] <;> rfl)) ?_
    refine rd_eqKK (okp _ (List.getElem_mem _)) (okq _ (List.getElem_mem _)) ?_
    refine ⟨_, rfl, ifd (fun h2 => ?_) fun h2 => ?_⟩
    · walk_at "ws"
      refine rd_addI ?_
      refine ⟨n - (j + 1), by omega, j + 1, rfl, rfl, by omega, ?_⟩
      rw [List.take_add_one, List.take_add_one, he, hp1, hq1, h2]
    · refine fin (.inr ?_)
      rw [hp1, hq1]
      exact fun e => h2 (Option.some.inj e)
  · refine iff_ (fin (.inl ?_))
    omega
theorem alone {p : List Key} (hp : p ≠ []) (h1 : isInl (p.getLast hp) = true) (h2 : ¬ (1 : Int) < (p.length : Int)) : ∃ i, p = [.inl i] := by
  match p, hp, h1, h2 with
  | [.inl i], _, _, _ => exact ⟨i, rfl⟩
  | [.inr s], _, h1, _ => cases h1
  | _ :: _ :: _, _, _, h2 => exact absurd (by simp only [List.length_cons]; omega) h2
theorem isInl_of {p : List Key} (hp : p ≠ []) (h : isInl (p.getLast hp) = false) : ∀ i, tl p ≠ some (.inl i) := fun i e => by
  rw [tl_last hp] at e
  injection e with e
  rw [e] at h
  cases h
/-- the last part of unified: left is a term, right too; one is an unknown alone, or neither is -/
def t_unifiedB (G : Gx) : TS :=
    (tSeq (tIfS (tOr (tNot (tB (tCall (sp_is_unknown G) [] E0 (tCons (tVar 3) tNil)))) (tOr (tTest (tOp rGtU (tCB (rLenU G.K) (tCons (tVar 3) tNil)) (tC (.int 1)))) (tTest (tOp (rEqD G.K) (tOp (rIx G.K) (tVar 4) (tUn (rU fun i => .int (-i)) (tC (.int 1)))) (tOp (rIx G.K) (tVar 3) (tUn (rU fun i => .int (-i)) (tC (.int 1)))))))) (tRet (tC .non)) tNext)
    (tRet (tMrg (tVar 2) (tOp (rIx G.K) (tVar 3) (tC (.int 0))) (tVar 4))))
theorem uniB {P N : Nat} {b : Bd} {x y : D} {l r : List Key} {Q : D → Prop} (kb : Bk P b) (hP : P ≤ 1000) (hN : N ≤ 5000) (kl : Kn N l) (kr : Kn N r) (hN1 : b.length ≤ 1 → N ≤ (b.length + 1) * P) (ne : l ≠ r) (fl : free b l) (fr : free b r)
    (alo : (∃ i, l = [.inl i]) ∨ ((∀ i, l ≠ [.inl i]) ∧ (∀ i, r ≠ [.inl i]) ∧ ∀ θ, Nz θ → ap θ l ≠ ap θ r))
    (q1 : ∀ b', Bk P b' → (∀ θ, Sol θ b' ↔ Sol θ b ∧ ap θ l = ap θ r) → Q (bD b')) (q2 : (∀ θ, Nz θ → Sol θ b → ap θ l ≠ ap θ r) → Q .non) :
    WS ⟨G, B, H⟩ (t_unifiedB G) [.d x, .d y, .d (bD b), .d (Tp l), .d (Tp r)] { nx := fun _ => Q .non, rt := Q } := by
  have hl : l ≠ [] := kl.tm.1
  have hr : r ≠ [] := kr.tm.1
  have no : (∀ i, l ≠ [.inl i]) → Q .non := fun h => by
    rcases alo with ⟨i, e⟩ | ⟨_, _, a⟩
    · exact absurd e (h i)
    · exact q2 fun θ hθ _ => a θ hθ
  unfold t_unifiedB
  walk_at "ws"
  refine ⟨rfl, l, rfl, hl, _, rfl, ?_⟩
  cases e1 : isInl (l.getLast hl) with
  | false =>
    refine ift (ift ?_)
    walk_at "ws"
    refine no fun i e => isInl_of hl e1 i (by rw [e]; rfl)
  | true =>
    refine iff_ ?_
    walk_at "ws"
    refine rc_lenT ?_
    walk_at "ws"
    rw [List.length_map]
    refine rd_gt ?_
    refine ⟨_, rfl, ifd (fun h2 => ?_) fun h2 => ?_⟩
    · refine ift ?_
      walk_at "ws"
      refine no fun i e => ?_
      rw [e] at h2
      exact absurd h2 (by simp)
    · obtain ⟨i, rfl⟩ := alone hl e1 h2
      walk_at "ws"
      refine rd_ixT (d := kD (r.getLast hr)) (by rw [atI_map, atI_m1 hr] <;> rfl) ?_
      walk_at "ws"
      refine rd_ixT (d := kD (.inl i)) (by rw [atI_map] <;> rfl) ?_
      refine rd_eqKK (kr.ok _ (List.getLast_mem hr)) trivial ?_
      have tr := tl_last hr
      refine ⟨_, rfl, ifd (fun h3 => ?_) fun h3 => ?_⟩
      · walk_at "ws"
        rw [h3] at tr
        exact q2 fun θ hθ _ => no_loop tr (Ne.symm ne)
      · walk_at "ws"
        refine we_mrg fun p => ?_
        walk_at "ws"
        refine ⟨by rw [List.length_map]; have := kb.le2; omega, fun p2 => ?_⟩
        walk_at "ws"
        refine rd_ixT (d := kD (.inl i)) (by rw [atI_map] <;> rfl) ?_
        refine ⟨.inl i, rfl, ?_⟩
        walk_at "ws"
        have hi : i = 0 ∨ i = 1 := kl.u i rfl
        have nb : ∀ x ∈ b, x.1 ≠ i := fl i rfl
        have hb1 := one_key kb.wf (fun x hx => (kb.rows x hx).2) hi nb
        have e5 : putD (b.map fun p => ((Sum.inl p.1 : Key), Tp p.2)) (Sum.inl i) (Tp r) = (b ++ [(i, r)]).map fun p => ((Sum.inl p.1 : Key), Tp p.2) := by
          unfold putD
          rw [if_neg, List.map_append]
          · rfl
          · intro z
            obtain ⟨x, hx, e⟩ := List.any_eq_true.mp z
            obtain ⟨w, hw, rfl⟩ := List.mem_map.mp hx
            exact nb w hw (Sum.inl.inj (of_decide_eq_true e))
        have e6 : (.dct (putD (b.map fun p => ((Sum.inl p.1 : Key), Tp p.2)) (Sum.inl i) (Tp r)) : D) = bD (b ++ [(i, r)]) := by rw [e5]; rfl
        rw [e6]
        have hlb : (b ++ [(i, r)]).length = b.length + 1 := by simp
        refine q1 _ ⟨kb.wf.snoc kr.tm nb (fun e => ?_) (fun x hx e => fr x.1 e x hx rfl), fun x hx => ?_⟩ fun θ => sol_snoc
        · rw [tr] at e
          exact h3 (Option.some.inj e)
        · rw [hlb]
          rcases List.mem_append.mp hx with hx | hx
          · obtain ⟨k1, k2⟩ := kb.rows x hx
            exact ⟨⟨k1.tm, k1.ok, k1.u, Nat.le_trans k1.len (Nat.mul_le_mul_right P (Nat.le_succ _))⟩, k2⟩
          · have e : x = (i, r) := by simpa using hx
            subst e
            exact ⟨⟨kr.tm, kr.ok, kr.u, Nat.le_trans kr.len (hN1 hb1)⟩, hi⟩
theorem Kn.drop {N m : Nat} {p : List Key} (k : Kn N p) (h : m < p.length) : Kn N (p.drop m) := by
  refine ⟨k.tm.drop h, fun x hx => k.ok x (List.mem_of_mem_drop hx), fun i hi => k.u i (by rw [← tl_drop h]; exact hi), ?_⟩
  have := k.len
  rw [List.length_drop]
  omega
theorem law_unified (ds : List D) (Q : D → Prop) (hl : ds.length = 3) (h : F_unified ds Q) : WS ⟨G, B, H⟩ (t_unified G) (ent 5 ds) { nx := fun _ => Q .non, rt := Q } := by
  obtain ⟨P, p, q, b, rfl, kp, kq, kb, hP, k1, k2⟩ := h
  unfold t_unified
  walk_at "ws"
  refine ⟨rfl, P, p, b, rfl, kp, kb, hP, fun rp krp frp arp => ?_⟩
  walk_at "ws"
  refine ⟨rfl, P, q, b, rfl, kq, kb, hP, fun rq krq frq arq => ?_⟩
  walk_at "ws"
  have hb2 := kb.le2
  have hN : P + b.length * (b.length * P) ≤ 5000 := by
    have h1 := Nat.mul_le_mul hb2 hP
    have h2 := Nat.mul_le_mul hb2 h1
    omega
  refine ⟨rfl, rp, rq, rfl, krp.tm.1, krq.tm.1, krp.ok, krq.ok, by have := krp.len; omega, by have := krq.len; omega, fun m dm => ?_⟩
  have kl := krp.drop dm.lp
  have kr := krq.drop dm.lq
  have fl : free b (rp.drop m) := fun i hi => frp i (by rw [← tl_drop dm.lp]; exact hi)
  have fr : free b (rq.drop m) := fun i hi => frq i (by rw [← tl_drop dm.lq]; exact hi)
  -- what solves
  have so : ∀ θ, Sol θ b → (ap θ p = ap θ q ↔ ap θ (rp.drop m) = ap θ (rq.drop m)) := fun θ hθ => by
    rw [← arp θ hθ, ← arq θ hθ]
    exact dm.ap θ
  have ano : rp.drop m ≠ rq.drop m → (∀ i, rp.drop m ≠ [.inl i]) → (∀ i, rq.drop m ≠ [.inl i]) → ∀ θ, Nz θ → ap θ (rp.drop m) ≠ ap θ (rq.drop m) := fun ne n1 n2 θ hθ => dm.no krp.tm krq.tm ne n1 n2 θ hθ
  generalize rp.drop m = l at *
  generalize rq.drop m = r at *
  have hl : l ≠ [] := kl.tm.1
  have hr : r ≠ [] := kr.tm.1
  have hN1 : b.length ≤ 1 → P + b.length * (b.length * P) ≤ (b.length + 1) * P := fun h => by
    match h5 : b.length, h with
    | 0, _ => omega
    | 1, _ => omega
  walk_at "ws"
  refine rd_eqTT kl.ok kr.ok ?_
  refine ⟨_, rfl, ifd (fun e => ?_) fun ne => ?_⟩
  · walk_at "ws"
    refine k1 b kb fun θ => ⟨fun h => ⟨h, (so θ h).mpr (by rw [e])⟩, fun h => h.1⟩
  · walk_at "ws"
    refine ⟨rfl, l, rfl, hl, _, rfl, ?_⟩
    have straight : (∃ i, l = [.inl i]) → WS ⟨G, B, H⟩ (t_unifiedB G) [.d (Tp p), .d (Tp q), .d (bD b), .d (Tp l), .d (Tp r)] { nx := fun _ => Q .non, rt := Q } := fun hi =>
      uniB kb hP hN kl kr hN1 ne fl fr (.inl hi) (fun b' kb' s => k1 b' kb' fun θ => (s θ).trans ⟨fun z => ⟨z.1, (so θ z.1).mpr z.2⟩, fun z => ⟨z.1, (so θ z.1).mp z.2⟩⟩) fun no => k2 fun θ hθ z => no θ hθ z.1 ((so θ z.1).mp z.2)
    have swapped : (∀ i, l ≠ [.inl i]) → WS ⟨G, B, H⟩ (t_unifiedB G) [.d (Tp p), .d (Tp q), .d (bD b), .d (Tp r), .d (Tp l)] { nx := fun _ => Q .non, rt := Q } := fun hn => by
      refine uniB kb hP hN kr kl hN1 (Ne.symm ne) fr fl ?_ (fun b' kb' s => k1 b' kb' fun θ => (s θ).trans ⟨fun z => ⟨z.1, (so θ z.1).mpr z.2.symm⟩, fun z => ⟨z.1, ((so θ z.1).mp z.2).symm⟩⟩) fun no => k2 fun θ hθ z => no θ hθ z.1 ((so θ z.1).mp z.2).symm
      by_cases h : ∃ i, r = [.inl i]
      · exact .inl h
      · exact .inr ⟨fun i e => h ⟨i, e⟩, hn, fun θ hθ e => ano ne hn (fun i e => h ⟨i, e⟩) θ hθ e.symm⟩
    cases e1 : isInl (l.getLast hl) with
    | false =>
      refine ift (ift ?_)
      iterate 7 walk_at "w"
      exact swapped fun i e => isInl_of hl e1 i (by rw [e]; rfl)
    | true =>
      refine iff_ ?_
      walk_at "ws"
      refine rc_lenT ?_
      walk_at "ws"
      rw [List.length_map]
      refine rd_gt ?_
      refine ⟨_, rfl, ifd (fun h2 => ?_) fun h2 => ?_⟩
      · iterate 7 walk_at "w"
        refine swapped fun i e => ?_
        rw [e] at h2
        exact absurd h2 (by simp)
      · walk_at "w"
        exact straight (alone hl e1 h2)
theorem zip_all {α β : Type} (f : α → β) : ∀ {ps qs : List α}, ps.length = qs.length → ((∀ z ∈ ps.zip qs, f z.1 = f z.2) ↔ ps.map f = qs.map f)
  | [], [], _ => by simp
  | [], _ :: _, h => by simp at h
  | _ :: _, [], h => by simp at h
  | p :: ps, q :: qs, h => by
    have ih := zip_all f (ps := ps) (qs := qs) (by simpa using h)
    simp only [List.zip_cons_cons, List.mem_cons, forall_eq_or_imp, ih, List.map_cons, List.cons.injEq]
theorem all_snoc {α : Type} {xs : List α} {x : α} {p : α → Prop} : (∀ z ∈ xs ++ [x], p z) ↔ (∀ z ∈ xs, p z) ∧ p x := by
  constructor
  · intro h
    exact ⟨fun z hz => h z (List.mem_append_left _ hz), h x (by simp)⟩
  · rintro ⟨h1, h2⟩ z hz
    rcases List.mem_append.mp hz with h | h
    · exact h1 z h
    · have e : z = x := by simpa using h
      subst e
      exact h2
theorem law_unified_all (ds : List D) (Q : D → Prop) (hl : ds.length = 3) (h : F_unified_all ds Q) : WS ⟨G, B, H⟩ (t_unified_all G) (ent 6 ds) { nx := fun _ => Q .non, rt := Q } := by
  obtain ⟨P, ps, qs, rfl, hlen, hp, hq, hP, k1, k2⟩ := h
  unfold t_unified_all
  walk_at "ws"
  refine ws_for2 (fun z => Tp z.1) (fun z => Tp z.2) (ps.zip qs) (fun done ρ => ∃ x y f, ρ = [.d (.lst (ps.map Tp)), .d (.lst (qs.map Tp)), .d (bD []), .d f, x, y] ∧
    ((∃ b, f = bD b ∧ Bk P b ∧ ∀ θ, Sol θ b ↔ ∀ z ∈ done, ap θ z.1 = ap θ z.2) ∨ (f = .non ∧ ∀ θ, Nz θ → ¬ ∀ z ∈ done, ap θ z.1 = ap θ z.2))) (wi_zip ?_)
  walk_at "ws"
  refine ⟨?_, ?_, ?_, ?_⟩
  · rw [List.zip_map, List.map_map]
    rfl
  · exact ⟨_, _, _, rfl, .inl ⟨[], rfl, ⟨trivial, fun x hx => by cases hx⟩, fun θ => ⟨fun _ z hz => (by cases hz), fun _ x hx => (by cases hx)⟩⟩⟩
  · rintro zp z zq ρ' e ⟨x, y, f, rfl, hf⟩
    have hm : z ∈ ps.zip qs := by rw [e]; simp
    obtain ⟨m1, m2⟩ := List.of_mem_zip (a := z.1) (b := z.2) hm
    rcases hf with ⟨b, rfl, kb, sb⟩ | ⟨rfl, no⟩
    · walk_at "ws"
      refine rd_notN isn_dct ⟨_, rfl, ift ?_⟩
      walk_at "ws"
      refine ⟨rfl, P, z.1, z.2, b, rfl, hp _ m1, hq _ m2, kb, hP, fun b' kb' s' => ?_, fun no => ?_⟩
      · refine ⟨_, _, _, rfl, .inl ⟨b', rfl, kb', fun θ => ?_⟩⟩
        rw [s' θ, sb θ, all_snoc]
      · refine ⟨_, _, _, rfl, .inr ⟨rfl, fun θ hθ h => no θ hθ ?_⟩⟩
        rw [all_snoc] at h
        exact ⟨(sb θ).mpr h.1, h.2⟩
    · walk_at "ws"
      refine rd_notN isn_non ⟨_, rfl, iff_ ?_⟩
      walk_at "w"
      refine ⟨_, _, _, rfl, .inr ⟨rfl, fun θ hθ h => no θ hθ (all_snoc.mp h).1⟩⟩
  · rintro ρ' ⟨x, y, f, rfl, hf⟩
    walk_at "ws"
    rcases hf with ⟨b, rfl, kb, sb⟩ | ⟨rfl, no⟩
    · exact k1 b kb fun θ => (sb θ).trans (zip_all (ap θ) hlen)
    · exact k2 fun θ hθ h => no θ hθ ((zip_all (ap θ) hlen).mpr h)
end
end

section
set_option Elab.async false
set_option autoImplicit false
set_option linter.all false
set_option maxRecDepth 100000
set_option maxHeartbeats 4000000
open PySem PySem.Spec PyProof.Rows L2
section
variable {G : Gx} {B : Addr → Prop} {H : Hp}
theorem fm_some {α β : Type} (h : α → β) (xs : List α) : xs.filterMap (fun x => some (h x)) = xs.map h := by
  induction xs with
  | nil => rfl
  | cons x xs ih => simp [ih]
theorem line_of {n : Nat} (h : n ≤ 1000) : n ≤ sizeLine := le_line (by omega)
theorem law_is_name (ds : List D) (Q : D → Prop) (hl : ds.length = 1) (h : F_is_name ds Q) : WS ⟨G, B, H⟩ (t_is_name G) (ent 2 ds) { nx := fun _ => Q .non, rt := Q } := by
  obtain ⟨x, rfl, hx, q⟩ := h
  unfold t_is_name
  walk_at "ws"
  refine rc_isi (b := true) (by decide) rfl ⟨_, rfl, iff_ ?_⟩
  walk_at "ws"
  refine rc_lenS (line_of hx) ?_
  refine rd_le ⟨_, rfl, ifd (fun h1 => ?_) fun h1 => ?_⟩
  · walk_at "ws"
    refine rd_le ⟨_, rfl, ?_⟩
    by_cases h2 : (x.length : Int) ≤ 8
    · rw [decide_eq_true h2]
      refine iff_ ?_
      walk_at "w"
      walk_at "w"
      walk_at "w"
      walk_at "w"
      refine (wn_lc1 (α := Nat) ⟨_, rfl, rfl⟩ (wi_str ?_)).e
      walk_at "ws"
      refine ⟨by omega, x.cps.toList, fun c => .str ⟨#[c]⟩, fun c => some (.bl (decide (c ∈ letters.cps.toList))), rfl, fun c hc p => ?_, ?_⟩
      · walk_at "ws"
        exact rd_inS rfl
      · walk_at "ws"
        have e : (x.cps.toList.filterMap fun c => some (D.bl (decide (c ∈ letters.cps.toList)))) = (x.cps.toList.map fun c => decide (c ∈ letters.cps.toList)).map D.bl := by
          rw [fm_some (fun c => D.bl (decide (c ∈ letters.cps.toList))), List.map_map] <;> rfl
        rw [e]
        refine rc_all ?_
        have e2 : isNm x = (x.cps.toList.map fun c => decide (c ∈ letters.cps.toList)).all id := by
          unfold isNm
          rw [decide_eq_true (by omega), Bool.true_and, List.all_map] <;> rfl
        rw [← e2]
        exact q
    · rw [decide_eq_false h2]
      refine ift ?_
      walk_at "ws"
      have e2 : isNm x = false := by
        unfold isNm
        rw [decide_eq_false (by omega), Bool.false_and]
      rw [e2] at q
      exact q
  · refine ⟨_, rfl, ift ?_⟩
    walk_at "ws"
    have e2 : isNm x = false := by
      unfold isNm
      rw [decide_eq_false (by omega), Bool.false_and]
    rw [e2] at q
    exact q
theorem ok_pD {n : Nat} {p : Pt} (h : ∀ x ∈ p, sOk x) : okD (n + 1) (pD p) = true := ok_tup (ok_map fun x hx => ok_str (h x hx))
theorem eqD_false {n m : Nat} {x y : D} (hx : okD n x = true) (hy : okD m y = true) (h : x ≠ y) : eqD x y = false := by
  rw [Bool.eq_false_iff]
  intro e
  exact h ((eqD_true hx hy).mp e)
theorem eqD_same {n : Nat} {x : D} (hx : okD n x = true) : eqD x x = true := (eqD_true hx hx).mpr rfl
theorem atI_pD {p : Pt} (h : p ≠ []) : atI (p.map D.str) (-1) = some (.str (p.getLast h)) := by rw [atI_map, atI_m1 h] <;> rfl
theorem hT_dec {p : Pt} (h : p ≠ []) : hT p = decide (p.getLast h = "T") := by
  unfold hT
  rw [List.getLast?_eq_some_getLast h]
  exact decide_eq_decide.mpr ⟨fun e => Option.some.inj e, fun e => by rw [e]⟩
theorem law_has_hole (ds : List D) (Q : D → Prop) (hl : ds.length = 1) (h : F_has_hole ds Q) : WS ⟨G, B, H⟩ (t_has_hole G) (ent 1 ds) { nx := fun _ => Q .non, rt := Q } := by
  obtain ⟨p, rfl, hp, q⟩ := h
  unfold t_has_hole
  walk_at "ws"
  refine rd_ixT (atI_pD hp.ne) ?_
  walk_at "ws"
  refine rc_isi (b := true) (by decide) rfl ⟨_, rfl, ift ?_⟩
  walk_at "ws"
  refine rd_ixT (atI_pD hp.ne) ?_
  walk_at "ws"
  refine rd_eqSS (hp.ok _ (List.getLast_mem hp.ne)) sOk_T ?_
  rw [hT_dec hp.ne] at q
  exact q
theorem isNm_len {x : Str} (h : isNm x = true) : 1 ≤ x.length ∧ x.length ≤ 8 := by
  unfold isNm at h
  rw [Bool.and_eq_true] at h
  exact of_decide_eq_true h.1
theorem rc_allT {α : Type} {zs : List α} {Q : D → Prop} (q : Q (.bl true)) : RC G (rAll G.K) [.lst (zs.filterMap fun _ => some (.bl true))] Q := by
  have e : (zs.filterMap fun _ => some (D.bl true)) = (zs.map fun _ => true).map D.bl := by
    rw [fm_some (fun _ => D.bl true), List.map_map] <;> rfl
  rw [e]
  refine rc_all ?_
  have e2 : (zs.map fun _ => true).all id = true := by simp
  rw [e2]
  exact q
theorem law_is_pattern (ds : List D) (Q : D → Prop) (hl : ds.length = 1) (h : F_is_pattern ds Q) : WS ⟨G, B, H⟩ (t_is_pattern G) (ent 2 ds) { nx := fun _ => Q .non, rt := Q } := by
  obtain ⟨p, rfl, hp, q⟩ := h
  unfold t_is_pattern
  walk_at "ws"
  refine rc_isi (b := true) (by decide) rfl ⟨_, rfl, iff_ ?_⟩
  walk_at "ws"
  refine ⟨len1 0, ?_⟩
  refine rd_eq 1 (ok_pD hp.ok) (ok_tup (by simp)) ?_
  rw [eqD_false (ok_pD (n := 0) hp.ok) (ok_tup (n := 0) (by simp)) (by intro e; injection e with e; exact hp.ne (List.map_eq_nil_iff.mp e))]
  refine ⟨_, rfl, iff_ ?_⟩
  iterate 4 walk_at "w"
  refine (wn_lc1 (α := Str) ⟨_, rfl, rfl⟩ (wi_seq ?_)).e
  walk_at "ws"
  refine rs_tup ?_
  refine ⟨_, rfl, p.dropLast, D.str, fun _ => some (.bl true), by rw [cutD_map, cutD_last], fun x hx a => ?_, ?_⟩
  · walk_at "ws"
    have hn := hp.names x hx
    have := isNm_len hn
    exact ⟨rfl, x, rfl, by omega, by rw [hn]⟩
  · walk_at "ws"
    refine rc_allT ⟨_, rfl, iff_ ?_⟩
    walk_at "ws"
    refine rd_ixT (atI_pD hp.ne) ?_
    walk_at "ws"
    refine ⟨rfl, _, rfl, ?_, _, rfl, ?_⟩
    · rcases hp.last with h | h
      · have := isNm_len h
        omega
      · rw [h]
        decide
    · refine ifb (fun _ => q) fun hn => ?_
      walk_at "ws"
      refine ⟨rfl, p, rfl, hp, ?_⟩
      have e : hT p = true := by
        rw [hT_dec hp.ne]
        rcases hp.last with h | h
        · rw [hn] at h
          cases h
        · rw [h]
          rfl
      rw [e]
      exact q
theorem law_is_name_token (hW : ∀ H, SqT G.K H (He.ga G.K "WORDS") (words.map V.str)) (ds : List D) (Q : D → Prop) (hl : ds.length = 1) (h : F_is_name_token ds Q) : WS ⟨G, B, H⟩ (t_is_name_token G) (ent 1 ds) { nx := fun _ => Q .non, rt := Q } := by
  obtain ⟨x, rfl, hx, hw, q⟩ := h
  unfold t_is_name_token
  walk_at "ws"
  have := isNm_len hx
  refine ⟨rfl, x, rfl, by omega, _, rfl, ?_⟩
  rw [hx]
  refine ift ?_
  walk_at "ws"
  refine we_words hW ?_
  refine rd_notInT ?_
  rw [decide_eq_false hw]
  exact q
theorem dropLast_cut {α : Type} (f : Str → α) (p : List Str) : cutD (p.map f) none (some (-1)) = p.dropLast.map f := by rw [cutD_map, cutD_last]
theorem law_has_parts_of (ds : List D) (Q : D → Prop) (hl : ds.length = 3) (h : F_has_parts_of ds Q) : WS ⟨G, B, H⟩ (t_has_parts_of G) (ent 4 ds) { nx := fun _ => Q .non, rt := Q } := by
  obtain ⟨p, bases, cons, rfl, hp, ⟨h1, h2⟩, q⟩ := h
  unfold t_has_parts_of
  iterate 6 walk_at "w"
  refine (wn_lc1 (α := Str) ⟨_, rfl, rfl⟩ (wi_seq ?_)).e
  walk_at "ws"
  refine rs_tup ?_
  refine ⟨_, rfl, p.dropLast, D.str, fun _ => some (.bl true), dropLast_cut _ _, fun x hx a => ?_, ?_⟩
  · walk_at "ws"
    refine rd_inT ?_
    rw [decide_eq_true (h1 x hx)]
  · walk_at "ws"
    refine rc_allT ⟨_, rfl, iff_ ?_⟩
    walk_at "ws"
    refine rd_ixT (atI_pD hp.ne) ?_
    walk_at "ws"
    refine rd_eqSS (hp.ok _ (List.getLast_mem hp.ne)) sOk_T ?_
    refine ⟨_, rfl, ifd (fun _ => q) fun e => ?_⟩
    walk_at "ws"
    refine rd_ixT (atI_pD hp.ne) ?_
    walk_at "ws"
    refine rd_inT ?_
    rw [decide_eq_true ((h2 hp.ne).resolve_left e)]
    exact q
theorem sOk_of_sorts {s : Str} (h : s ∈ sorts) : sOk s := by
  have : ∀ x ∈ sorts, sOk x := by decide +kernel
  exact this s h
theorem sOk_oper : sOk "operator" := by decide +kernel
theorem sOk_fun : sOk "function" := by decide +kernel
theorem law_is_entry_name (hO : ∀ H, SqT G.K H (He.ga G.K "OPERATORS") (opers.map V.str)) (ds : List D) (Q : D → Prop) (hl : ds.length = 2) (h : F_is_entry_name ds Q) : WS ⟨G, B, H⟩ (t_is_entry_name G) (ent 2 ds) { nx := fun _ => Q .non, rt := Q } := by
  obtain ⟨s, x, rfl, hs, hn, q⟩ := h
  unfold t_is_entry_name
  unfold nameOk at hn
  walk_at "ws"
  refine rd_eqSS (sOk_of_sorts hs) sOk_oper ⟨_, rfl, ifd (fun e => ?_) fun e => ?_⟩
  · rw [if_pos e] at hn
    walk_at "ws"
    refine rc_isi (b := true) (by decide) rfl ⟨_, rfl, ift ?_⟩
    walk_at "ws"
    refine we_words hO ?_
    refine rd_inT ?_
    rw [decide_eq_true hn]
    exact q
  · rw [if_neg e] at hn
    walk_at "ws"
    exact ⟨rfl, x, rfl, hn.1, hn.2, q⟩
theorem law_fits_number (ds : List D) (Q : D → Prop) (hl : ds.length = 2) (h : F_fits_number ds Q) : WS ⟨G, B, H⟩ (t_fits_number G) (ent 2 ds) { nx := fun _ => Q .non, rt := Q } := by
  obtain ⟨s, n, rfl, hs, hn, q⟩ := h
  unfold t_fits_number
  unfold numOk at hn
  walk_at "ws"
  refine rd_eqSS (sOk_of_sorts hs) sOk_oper ⟨_, rfl, ifd (fun e => ?_) fun e => ?_⟩
  · rw [if_pos e] at hn
    walk_at "ws"
    refine rd_eqII ?_
    rw [decide_eq_true (by omega)]
    exact q
  · rw [if_neg e] at hn
    walk_at "ws"
    refine rd_le ?_
    rw [decide_eq_true (by omega)]
    refine ⟨_, rfl, ift ?_⟩
    walk_at "ws"
    refine rd_gt ⟨_, rfl, ifd (fun _ => q) fun h0 => ?_⟩
    walk_at "ws"
    refine rd_eqSS (sOk_of_sorts hs) sOk_fun ?_
    rw [decide_eq_true (hn.2.resolve_left (by omega))]
    exact q
end
end

section
set_option Elab.async false
set_option autoImplicit false
set_option linter.all false
set_option maxRecDepth 100000
set_option maxHeartbeats 4000000
open PySem PySem.Spec PyProof.Rows L2
section
variable {G : Gx} {B : Addr → Prop} {H : Hp}
theorem cut_four {a b c d : D} : cutD [a, b, c, d] none (some 2) = [a, b] := rfl
theorem law_is_entry (hS : ∀ H, SqT G.K H (He.ga G.K "SORTS") (sorts.map V.str)) (ds : List D) (Q : D → Prop) (hl : ds.length = 1) (h : F_is_entry ds Q) : WS ⟨G, B, H⟩ (t_is_entry G) (ent 6 ds) { nx := fun _ => Q .non, rt := Q } := by
  obtain ⟨e, rfl, he, q⟩ := h
  unfold t_is_entry
  walk_at "ws"
  refine rc_isi (b := true) (by decide) rfl ⟨_, rfl, iff_ ?_⟩
  walk_at "ws"
  refine rc_lenT ?_
  walk_at "ws"
  refine rd_neII ⟨_, rfl, iff_ ?_⟩
  walk_at "ws"
  refine rd_ixT (d := .str e.sort) rfl ?_
  walk_at "ws"
  refine rc_isi (b := true) (by decide) rfl ⟨_, rfl, iff_ ?_⟩
  walk_at "ws"
  refine rd_ixT (d := .str e.sort) rfl ?_
  refine we_words hS ?_
  refine rd_notInT ?_
  rw [decide_eq_true he.sort]
  refine ⟨_, rfl, iff_ ?_⟩
  walk_at "ws"
  refine ⟨rfl, e.sort, e.name, rfl, he.sort, he.name, _, rfl, iff_ ?_⟩
  walk_at "ws"
  refine rc_isi (b := true) (by decide) rfl ⟨_, rfl, iff_ ?_⟩
  walk_at "ws"
  refine rc_lenT ?_
  walk_at "ws"
  refine ⟨rfl, e.sort, e.ps.length, by rw [List.length_map], he.sort, he.num, _, rfl, iff_ ?_⟩
  iterate 7 walk_at "w"
  refine (wn_lc1 (α := Pt) ⟨_, rfl, rfl⟩ (wi_seq ?_)).e
  walk_at "ws"
  have lp : e.ps.length ≤ 4 := by
    have := he.num
    unfold numOk at this
    split at this <;> omega
  refine ⟨line_of (by simp only [List.length_append, List.length_map, List.length_cons, List.length_nil]; omega), _, rfl, e.ps ++ [e.res], pD, fun _ => some (.bl true), by rw [List.map_append]; rfl, fun x hx a => ?_, ?_⟩
  · walk_at "ws"
    refine ⟨rfl, x, rfl, ?_, rfl⟩
    rcases List.mem_append.mp hx with h | h
    · exact he.ps x h
    · have : x = e.res := by simpa using h
      subst this
      exact he.res
  · walk_at "ws"
    refine rc_allT ⟨_, rfl, iff_ ?_⟩
    walk_at "ws"
    refine rd_ixT (atI_pD he.res.ne) ?_
    walk_at "ws"
    refine rd_neSS (he.res.ok _ (List.getLast_mem he.res.ne)) sOk_T ?_
    refine ⟨_, rfl, ?_⟩
    rw [← hT_dec he.res.ne]
    cases hr : hT e.res with
    | false => exact ift q
    | true =>
      refine iff_ ?_
      iterate 2 walk_at "w"
      refine (wn_lc1 (α := Pt) ⟨_, rfl, rfl⟩ (wi_seq ?_)).e
      walk_at "ws"
      refine ⟨e.ps, pD, fun p => some (.bl (hT p)), rfl, fun x hx a => ?_, ?_⟩
      · walk_at "ws"
        refine rd_ixT (atI_pD (he.ps x hx).ne) ?_
        walk_at "ws"
        refine rd_eqSS ((he.ps x hx).ok _ (List.getLast_mem (he.ps x hx).ne)) sOk_T ?_
        rw [← hT_dec (he.ps x hx).ne]
      · walk_at "ws"
        have e1 : (e.ps.filterMap fun p => some (D.bl (hT p))) = (e.ps.map hT).map D.bl := by
          rw [fm_some (fun p => D.bl (hT p)), List.map_map] <;> rfl
        rw [e1]
        refine rc_any ?_
        have e2 : (e.ps.map hT).any id = true := by
          rw [List.any_map, List.any_eq_true]
          rcases he.hole with h | h
          · rw [h] at hr
            cases hr
          · exact h
        rw [e2]
        exact q
theorem law_is_entry_of (ds : List D) (Q : D → Prop) (hl : ds.length = 3) (h : F_is_entry_of ds Q) : WS ⟨G, B, H⟩ (t_is_entry_of G) (ent 4 ds) { nx := fun _ => Q .non, rt := Q } := by
  obtain ⟨e, bases, cons, rfl, he, q⟩ := h
  unfold t_is_entry_of
  walk_at "ws"
  refine ⟨rfl, e, rfl, he.ok, _, rfl, iff_ ?_⟩
  iterate 4 walk_at "w"
  refine (wn_lc1 (α := Pt) ⟨_, rfl, rfl⟩ (wi_seq ?_)).e
  walk_at "ws"
  refine rd_ixT (d := .tup (e.ps.map pD)) rfl ?_
  walk_at "ws"
  refine rd_ixT (d := pD e.res) rfl ?_
  walk_at "ws"
  have lp : e.ps.length ≤ 4 := by
    have := he.ok.num
    unfold numOk at this
    split at this <;> omega
  refine ⟨line_of (by simp only [List.length_append, List.length_map, List.length_cons, List.length_nil]; omega), _, rfl, e.ps ++ [e.res], pD, fun _ => some (.bl true), by rw [List.map_append]; rfl, fun x hx a => ?_, ?_⟩
  · walk_at "ws"
    have hk : PtOk x ∧ partOk bases cons x := by
      rcases List.mem_append.mp hx with h | h
      · exact ⟨he.ok.ps x h, he.ps x h⟩
      · have : x = e.res := by simpa using h
        subst this
        exact ⟨he.ok.res, he.res⟩
    exact ⟨rfl, x, bases, cons, rfl, hk.1, hk.2, rfl⟩
  · walk_at "ws"
    exact rc_allT q
/-! ### clashes -/
theorem pK_inj {a b : Pt} (h : pK a = pK b) : a = b := map_inj (fun {x y} e => Sum.inr.inj e) h
theorem ap_put {p : Pt} (hp : p ≠ []) (θ : Int → List Str) (i : Int) : ap θ (putT (pK p) [.inl i]) = pK (fill (θ i) p) := by
  have hg : (pK p).getLast? = (p.getLast?).map Sum.inr := by unfold pK; rw [List.getLast?_map]
  by_cases h : p.getLast? = some ("T" : Str)
  · have e1 : putT (pK p) [.inl i] = (pK p).dropLast ++ [.inl i] := if_pos (by rw [hg, h] <;> rfl)
    have e2 : fill (θ i) p = p.dropLast ++ θ i := if_pos (decide_eq_true h)
    rw [e1, ap_u, e2]
    unfold pK
    rw [List.map_append, List.map_dropLast]
  · have e1 : putT (pK p) [.inl i] = pK p := if_neg (by
      rw [hg]
      intro e
      rw [List.getLast?_eq_some_getLast hp] at e h
      exact h (by rw [Sum.inr.inj (Option.some.inj e)]))
    have e2 : fill (θ i) p = p := if_neg (by
      unfold hT
      rw [decide_eq_false h]
      decide)
    rw [e1, e2]
    obtain ⟨q, k, rfl⟩ := snoc_of hp
    unfold pK
    rw [List.map_append, List.map_cons, List.map_nil, ap_b]
theorem Kn_put {p : Pt} (hp : PtOk p) {i : Int} (hi : i = 0 ∨ i = 1) : Kn 101 (putT (pK p) [.inl i]) := by
  have hk : ∀ k ∈ (pK p).dropLast, ∃ s, k = Sum.inr s ∧ sOk s := fun k hk => by
    obtain ⟨s, hs, rfl⟩ := List.mem_map.mp ((List.dropLast_subset _) hk)
    exact ⟨s, rfl, hp.ok s hs⟩
  have hn : pK p ≠ [] := fun e => hp.ne (List.map_eq_nil_iff.mp e)
  have hl : (pK p).length = p.length := List.length_map _
  have hs := hp.short
  unfold putT
  split
  · refine ⟨⟨by simp, fun k h => ?_⟩, fun k h => ?_, fun j hj => ?_, ?_⟩
    · rw [List.dropLast_concat] at h
      obtain ⟨s, e, _⟩ := hk k h
      exact ⟨s, e⟩
    · rcases List.mem_append.mp h with h | h
      · obtain ⟨s, e, o⟩ := hk k h
        subst e
        exact o
      · have : k = .inl i := by simpa using h
        subst this
        exact trivial
    · have : tl ((pK p).dropLast ++ [Sum.inl i]) = some (.inl i) := by simp [tl]
      rw [this] at hj
      have := Sum.inl.inj (Option.some.inj hj)
      omega
    · rw [List.length_append, List.length_dropLast, hl]
      simp
      omega
  · refine ⟨⟨hn, fun k h => ?_⟩, fun k h => ?_, fun j hj => ?_, by omega⟩
    · obtain ⟨s, e, _⟩ := hk k h
      exact ⟨s, e⟩
    · obtain ⟨s, hs, rfl⟩ := List.mem_map.mp h
      exact hp.ok s hs
    · unfold tl pK at hj
      rw [List.getLast?_map] at hj
      cases e : p.getLast? with
      | none => rw [e] at hj; cases hj
      | some s => rw [e] at hj; cases hj
theorem map_ap_put {ps : List Pt} (h : ∀ p ∈ ps, PtOk p) (θ : Int → List Str) (i : Int) : (ps.map fun p => putT (pK p) [.inl i]).map (ap θ) = (ps.map (fill (θ i))).map pK := by
  rw [List.map_map, List.map_map]
  exact List.map_congr_left fun p hp => ap_put (h p hp).ne θ i
theorem law_do_clash (ds : List D) (Q : D → Prop) (hl : ds.length = 2) (h : F_do_clash ds Q) : WS ⟨G, B, H⟩ (t_do_clash G) (ent 5 ds) { nx := fun _ => Q .non, rt := Q } := by
  obtain ⟨a, b, rfl, ha, hb, q⟩ := h
  unfold t_do_clash
  walk_at "ws"
  refine rs_tup ?_
  walk_at "ws"
  refine rs_tup ?_
  rw [cut_four, cut_four]
  have oks : ∀ {e : En}, EnOk e → okD 1 (.tup [.str e.sort, .str e.name]) = true := fun {e} h => ok_tup fun d hd => by
    have h2 : d = .str e.sort ∨ d = .str e.name := by simpa using hd
    rcases h2 with rfl | rfl
    · exact ok_str (sOk_of_sorts h.sort)
    · exact ok_str h.nok
  refine rd_ne 1 (oks ha) (oks hb) ⟨_, rfl, ?_⟩
  by_cases h1 : a.sort = b.sort ∧ a.name = b.name
  · have e1 : eqD (.tup [.str a.sort, .str a.name]) (.tup [.str b.sort, .str b.name]) = true := (eqD_true (oks ha) (oks hb)).mpr (by rw [h1.1, h1.2])
    rw [e1]
    refine iff_ ?_
    walk_at "ws"
    refine rd_ixT (d := .tup (a.ps.map pD)) rfl ?_
    walk_at "ws"
    refine rc_lenT ?_
    walk_at "ws"
    refine rd_ixT (d := .tup (b.ps.map pD)) rfl ?_
    walk_at "ws"
    refine rc_lenT ?_
    rw [List.length_map, List.length_map]
    refine rd_neII ⟨_, rfl, ifnd (fun h2 => ?_) fun h2 => ?_⟩
    · walk_at "ws"
      refine q false ⟨fun e => (by cases e), fun ⟨_, _, h, _⟩ => absurd h (by omega)⟩
    · have hlen : a.ps.length = b.ps.length := by omega
      iterate 4 walk_at "w"
      refine (wn_lc1 (α := Pt) ⟨_, rfl, rfl⟩ (wi_seq ?_)).e
      walk_at "ws"
      refine rd_ixT (d := .tup (a.ps.map pD)) rfl ?_
      refine ⟨_, rfl, a.ps, pD, fun p => some (Tp (putT (pK p) [.inl 0])), rfl, fun p hp x => ?_, ?_⟩
      · walk_at "ws"
        refine ⟨len1 1, ?_⟩
        walk_at "ws"
        have := (ha.ps p hp).short
        exact ⟨rfl, pK p, [.inl 0], by rw [pD_Tp]; rfl, fun e => (ha.ps p hp).ne (List.map_eq_nil_iff.mp e), fun k hk => by
          obtain ⟨s, hs, rfl⟩ := List.mem_map.mp hk
          exact (ha.ps p hp).ok s hs, by unfold pK; simp; omega, rfl⟩
      iterate 1 walk_at "w"
      refine (wn_lc1 (α := Pt) ⟨_, rfl, rfl⟩ (wi_seq ?_)).e
      walk_at "ws"
      refine rd_ixT (d := .tup (b.ps.map pD)) rfl ?_
      refine ⟨_, rfl, b.ps, pD, fun p => some (Tp (putT (pK p) [.inl 1])), rfl, fun p hp x => ?_, ?_⟩
      · walk_at "ws"
        refine ⟨len1 1, ?_⟩
        walk_at "ws"
        have := (hb.ps p hp).short
        exact ⟨rfl, pK p, [.inl 1], by rw [pD_Tp]; rfl, fun e => (hb.ps p hp).ne (List.map_eq_nil_iff.mp e), fun k hk => by
          obtain ⟨s, hs, rfl⟩ := List.mem_map.mp hk
          exact (hb.ps p hp).ok s hs, by unfold pK; simp; omega, rfl⟩
      walk_at "ws"
      rw [fm_some (fun p : Pt => Tp (putT (pK p) [.inl 0])), fm_some (fun p : Pt => Tp (putT (pK p) [.inl 1]))]
      have sol : ∀ θ, (a.ps.map fun p => putT (pK p) [.inl 0]).map (ap θ) = (b.ps.map fun p => putT (pK p) [.inl 1]).map (ap θ) ↔ a.ps.map (fill (θ 0)) = b.ps.map (fill (θ 1)) := fun θ => by
        rw [map_ap_put ha.ps, map_ap_put hb.ps]
        exact ⟨fun h => map_inj (fun {x y} e => pK_inj e) h, fun h => by rw [h]⟩
      refine ⟨rfl, 101, a.ps.map fun p => putT (pK p) [.inl 0], b.ps.map fun p => putT (pK p) [.inl 1], by rw [List.map_map, List.map_map]; rfl, by rw [List.length_map, List.length_map, hlen], fun p hp => ?_, fun p hp => ?_, by omega, fun b' kb' s => ?_, fun no => ?_⟩
      · obtain ⟨p', h, rfl⟩ := List.mem_map.mp hp
        exact Kn_put (ha.ps p' h) (.inl rfl)
      · obtain ⟨p', h, rfl⟩ := List.mem_map.mp hp
        exact Kn_put (hb.ps p' h) (.inr rfl)
      · walk_at "ws"
        refine rd_notN isn_dct ?_
        obtain ⟨θ, hn, hs⟩ := Wf.sol ("" : Str) kb'.wf
        refine q true ⟨fun _ => ⟨h1.1, h1.2, hlen, θ 0, θ 1, hn 0, hn 1, (sol θ).mp ((s θ).mp hs)⟩, fun _ => rfl⟩
      · walk_at "ws"
        refine rd_notN isn_non ?_
        refine q false ⟨fun e => (by cases e), fun ⟨_, _, _, t, u, ht, hu, e⟩ => ?_⟩
        refine absurd ((sol fun i => if i = 0 then t else u).mpr e) (no _ fun i => ?_)
        show (if i = 0 then t else u) ≠ []
        split
        · exact ht
        · exact hu
  · have e1 : eqD (.tup [.str a.sort, .str a.name]) (.tup [.str b.sort, .str b.name]) = false := eqD_false (oks ha) (oks hb) (fun e => by
      injection e with e
      injection e with e1 e2
      injection e2 with e2 e3
      injection e1 with e1
      injection e2 with e2
      exact h1 ⟨e1, e2⟩)
    rw [e1]
    refine ift ?_
    walk_at "ws"
    exact q false ⟨fun e => (by cases e), fun ⟨x, y, _⟩ => absurd ⟨x, y⟩ h1⟩
theorem law_clash_with (ds : List D) (Q : D → Prop) (hl : ds.length = 2) (h : F_clash_with ds Q) : WS ⟨G, B, H⟩ (t_clash_with G) (ent 3 ds) { nx := fun _ => Q .non, rt := Q } := by
  obtain ⟨e, d, es, rfl, hd, he, hes, k1, k2⟩ := h
  unfold t_clash_with
  walk_at "w"
  refine ws_for1 enD es (fun done ρ => (∃ s, ρ = [.d (enD e), .d d, s]) ∧ ∀ x ∈ done, ¬ clash x e) (wi_seq ?_)
  walk_at "w"
  refine ⟨_, hd, rfl, ⟨⟨_, rfl⟩, fun x hx => by cases hx⟩, ?_, ?_⟩
  · rintro zp z zq ρ' es' ⟨⟨s, rfl⟩, hn⟩
    have hz : z ∈ es := by rw [es']; simp
    walk_at "ws"
    refine ⟨rfl, z, e, rfl, hes z hz, he, fun c hc => ⟨_, rfl, ifb (fun h => ?_) fun h => ?_⟩⟩
    · walk_at "ws"
      exact k1 z hz (hc.mp h)
    · walk_at "w"
      refine ⟨⟨_, rfl⟩, all_snoc.mpr ⟨hn, fun h2 => ?_⟩⟩
      rw [hc.mpr h2] at h
      cases h
  · rintro ρ' ⟨⟨s, rfl⟩, hn⟩
    walk_at "ws"
    exact k2 hn
end
end

section
set_option Elab.async false
set_option autoImplicit false
set_option linter.all false
set_option maxRecDepth 100000
set_option maxHeartbeats 4000000
open PySem PySem.Spec PyProof.Rows L2
section
variable {G : Gx} {B : Addr → Prop} {H : Hp}
theorem zip_next {α : Type} (f : α → D) (xs : List α) : ((xs.map f).zip ((xs.map f).drop 1)).map pairD = (xs.zip (xs.drop 1)).map fun z => D.tup [f z.1, f z.2] := by
  rw [← List.map_drop, List.zip_map, List.map_map]
  rfl
theorem cut_next {α : Type} (xs : List α) : cutD xs (some 1) none = xs.drop 1 := cutD_drop xs 1
theorem law_are_names (ds : List D) (Q : D → Prop) (hl : ds.length = 1) (h : F_are_names ds Q) : WS ⟨G, B, H⟩ (t_are_names G) (ent 4 ds) { nx := fun _ => Q .non, rt := Q } := by
  obtain ⟨xs, rfl, hx, q⟩ := h
  unfold t_are_names
  walk_at "ws"
  refine rc_isi (b := true) (by decide) rfl ⟨_, rfl, iff_ ?_⟩
  iterate 4 walk_at "w"
  refine (wn_lc1 (α := Str) ⟨_, rfl, rfl⟩ (wi_seq ?_)).e
  walk_at "ws"
  refine ⟨xs, D.str, fun _ => some (.bl true), rfl, fun x hx' a => ?_, ?_⟩
  · walk_at "ws"
    have hn := hx.nm x hx'
    have := isNm_len hn
    exact ⟨rfl, x, rfl, by omega, by rw [hn]⟩
  · walk_at "ws"
    refine rc_allT ⟨_, rfl, iff_ ?_⟩
    iterate 4 walk_at "w"
    refine (wn_lc2 (α := Str × Str) (i := 1) (j := 2) ⟨_, rfl, rfl⟩ ⟨_, rfl, rfl⟩ (by decide) (wi_zip ?_)).e
    walk_at "ws"
    refine rs_tup ?_
    walk_at "ws"
    refine ⟨xs.zip (xs.drop 1), fun z => .str z.1, fun z => .str z.2, fun _ => some (.bl true), by rw [cut_next]; exact zip_next _ _, fun z hz a => ?_, ?_⟩
    · walk_at "ws"
      refine rd_ltS ?_
      rw [decide_eq_true (hx.asc z hz)]
    · walk_at "ws"
      exact rc_allT q
theorem law_check_names (ds : List D) (Q : D → Prop) (hl : ds.length = 2) (h : F_check_names ds Q) : WS ⟨G, B, H⟩ (t_check_names G) (ent 3 ds) { nx := fun _ => Q .non, rt := Q } := by
  obtain ⟨bases, cons, rfl, hx, q⟩ := h
  unfold t_check_names
  walk_at "ws"
  refine ⟨rfl, bases, rfl, hx.b, _, rfl, iff_ ?_⟩
  walk_at "ws"
  refine ⟨len1 0, ?_⟩
  refine rd_eq 1 (ok_pD hx.b.ok) (ok_tup (by simp)) ?_
  rw [eqD_false (ok_pD (n := 0) hx.b.ok) (ok_tup (n := 0) (by simp)) (by intro e; injection e with e; exact hx.ne (List.map_eq_nil_iff.mp e))]
  refine ⟨_, rfl, iff_ ?_⟩
  walk_at "ws"
  refine ⟨rfl, cons, rfl, hx.c, _, rfl, iff_ ?_⟩
  iterate 3 walk_at "w"
  refine (wn_lc1 (α := Str) ⟨_, rfl, rfl⟩ (wi_seq ?_)).e
  walk_at "ws"
  refine ⟨cons, D.str, fun _ => some (.bl false), rfl, fun x hx' a => ?_, ?_⟩
  · walk_at "ws"
    refine rd_inT ?_
    rw [decide_eq_false (hx.dis x hx')]
  · walk_at "ws"
    have e1 : (cons.filterMap fun _ => some (D.bl false)) = (cons.map fun _ => false).map D.bl := by
      rw [fm_some (fun _ => D.bl false), List.map_map] <;> rfl
    rw [e1]
    refine rc_any ?_
    have e2 : (cons.map fun _ => false).any id = false := by simp
    rw [e2]
    refine ⟨_, rfl, iff_ ?_⟩
    walk_at "ws"
    exact q
theorem law_check_role (ds : List D) (Q : D → Prop) (hl : ds.length = 3) (h : F_check_role ds Q) : WS ⟨G, B, H⟩ (t_check_role G) (ent 3 ds) { nx := fun _ => Q .non, rt := Q } := by
  obtain ⟨w, bases, r, rfl, hr, q⟩ := h
  unfold t_check_role
  cases r with
  | none =>
    walk_at "ws"
    refine rd_notN isn_non ⟨_, rfl, iff_ (iff_ ?_)⟩
    walk_at "ws"
    exact q
  | some x =>
    walk_at "ws"
    refine rd_notN isn_str ⟨_, rfl, ift ?_⟩
    walk_at "ws"
    refine rc_isi (b := true) (by decide) rfl ⟨_, rfl, iff_ ?_⟩
    walk_at "ws"
    refine rd_notInT ?_
    rw [decide_eq_true (hr x rfl)]
    refine ⟨_, rfl, iff_ ?_⟩
    walk_at "ws"
    exact q
theorem law_check_clashes (ds : List D) (Q : D → Prop) (hl : ds.length = 1) (h : F_check_clashes ds Q) : WS ⟨G, B, H⟩ (t_check_clashes G) (ent 4 ds) { nx := fun _ => Q .non, rt := Q } := by
  obtain ⟨es, rfl, he, hn, q⟩ := h
  unfold t_check_clashes
  refine ws_for2 (α := En × Nat) (fun z => .int (z.2 : Nat)) (fun z => enD z.1) es.zipIdx (fun done ρ => ∃ a b c, ρ = [.d (esD es), a, b, c] ∧ a.ads = [] ∧ b.ads = [] ∧ c.ads = []) (wi_enumT ?_)
  walk_at "ws"
  refine ⟨?_, ⟨_, _, _, rfl, rfl, rfl, rfl⟩, ?_, ?_⟩
  · unfold enumD
    rw [List.zipIdx_map, List.map_map]
    rfl
  · rintro zp z zq ρ' ez ⟨a, b, c, rfl, _, _, _⟩
    have hz : z ∈ es.zipIdx := by rw [ez]; simp
    have hz2 : es[z.2]? = some z.1 := by
      have := List.mem_zipIdx_iff_getElem?.mp (by simpa using hz)
      exact this
    have hlt := (List.getElem?_eq_some_iff.mp hz2).1
    walk_at "ws"
    refine rs_tup ?_
    walk_at "ws"
    refine ⟨rfl, z.1, _, es.take z.2, rfl, ?_, he _ (List.mem_of_getElem? hz2), fun x hx => he x (List.mem_of_mem_take hx), fun x hx hc => ?_, fun _ => ?_⟩
    · show some _ = some _
      rw [cutD_map, cutD_take]
    · exfalso
      obtain ⟨i, hi, e⟩ := List.mem_take_iff_getElem.mp hx
      have := List.pairwise_iff_getElem.mp hn i z.2 (by omega) hlt (by omega)
      rw [e, (List.getElem?_eq_some_iff.mp hz2).2] at this
      exact this hc
    · walk_at "ws"
      refine rd_notN isn_non ⟨_, rfl, iff_ ?_⟩
      walk_at "ws"
      exact ⟨rfl, rfl, rfl⟩
  · rintro ρ' _
    exact q
end
end

section
set_option Elab.async false
set_option autoImplicit false
set_option linter.all false
set_option maxRecDepth 100000
set_option maxHeartbeats 4000000
open PySem PySem.Spec PyProof.Rows L2
section
variable {G : Gx} {B : Addr → Prop} {H : Hp}
theorem law_roles_of (hL : LbK G.K (lbC G)) (ds : List D) (Q : D → Prop) (hl : ds.length = 1) (h : F_roles_of (lbC G) ds Q) : WS ⟨G, B, H⟩ (t_roles_of G) (ent 1 ds) { nx := fun _ => Q .non, rt := Q } := by
  obtain ⟨L, rfl, q⟩ := h
  unfold t_roles_of
  walk_at "ws"
  refine we_fld ?_
  walk_at "ws"
  refine ⟨_, _, _, rfl, hL.cls, hL.no _ (by simp), rfl, ?_⟩
  walk_at "ws"
  refine we_fld ?_
  walk_at "ws"
  refine ⟨_, _, _, rfl, hL.cls, hL.no _ (by simp), rfl, ?_⟩
  walk_at "ws"
  refine we_fld ?_
  walk_at "ws"
  refine ⟨_, _, _, rfl, hL.cls, hL.no _ (by simp), rfl, ?_⟩
  walk_at "ws"
  exact ⟨line_of (by simp), q⟩
theorem law_is_entry_for (hL : LbK G.K (lbC G)) (ds : List D) (Q : D → Prop) (hl : ds.length = 2) (h : F_is_entry_for (lbC G) ds Q) : WS ⟨G, B, H⟩ (t_is_entry_for G) (ent 2 ds) { nx := fun _ => Q .non, rt := Q } := by
  obtain ⟨L, e, rfl, he, q⟩ := h
  unfold t_is_entry_for
  walk_at "ws"
  refine we_fld ?_
  walk_at "ws"
  refine ⟨_, _, _, rfl, hL.cls, hL.no _ (by simp), rfl, ?_⟩
  walk_at "ws"
  refine we_fld ?_
  walk_at "ws"
  refine ⟨_, _, _, rfl, hL.cls, hL.no _ (by simp), rfl, ?_⟩
  walk_at "ws"
  exact ⟨rfl, e, _, _, rfl, he, q⟩
theorem law_is_from_nought (ds : List D) (Q : D → Prop) (hl : ds.length = 1) (h : F_is_from_nought ds Q) : WS ⟨G, B, H⟩ (t_is_from_nought G) (ent 1 ds) { nx := fun _ => Q .non, rt := Q } := by
  obtain ⟨i, rfl, hi, q⟩ := h
  unfold t_is_from_nought
  walk_at "ws"
  refine rc_isi (b := true) (by decide) rfl ⟨_, rfl, ift ?_⟩
  walk_at "ws"
  refine rc_isi (b := false) (by decide) rfl ⟨_, rfl, _, rfl, ift ?_⟩
  walk_at "ws"
  refine rd_ge ?_
  rw [decide_eq_true hi]
  exact q
theorem ok_enD {n : Nat} {e : En} (h : EnOk e) : okD (n + 3) (enD e) = true := ok_tup fun d hd => by
  have h4 : d = .str e.sort ∨ d = .str e.name ∨ d = .tup (e.ps.map pD) ∨ d = pD e.res := by simpa using hd
  rcases h4 with rfl | rfl | rfl | rfl
  · exact ok_str (sOk_of_sorts h.sort)
  · exact ok_str h.nok
  · exact ok_tup (ok_map fun p hp => ok_pD (h.ps p hp).ok)
  · exact ok_pD h.res.ok
def DdEn : Dd → Prop
  | .undo _ _ => True
  | .add e => EnOk e
  | .drop e => EnOk e
theorem DdOk.en {bases cons : List Str} {d : Dd} (h : DdOk bases cons d) : DdEn d := by
  cases d with
  | undo h n => exact trivial
  | add e => exact EnOf.ok h
  | drop e => exact EnOf.ok h
theorem ok_ddD {d : Dd} (h : DdEn d) : okD 4 (ddD d) = true := by
  cases d with
  | undo h n => exact ok_tup (n := 3) (by simp [okD]; decide +kernel)
  | add e =>
    refine ok_tup (n := 3) fun d hd => ?_
    have h2 : d = .str "add" ∨ d = enD e := by simpa using hd
    rcases h2 with rfl | rfl
    · exact ok_str (by decide +kernel)
    · exact ok_enD (n := 0) h
  | drop e =>
    refine ok_tup (n := 3) fun d hd => ?_
    have h2 : d = .str "drop" ∨ d = enD e := by simpa using hd
    rcases h2 with rfl | rfl
    · exact ok_str (by decide +kernel)
    · exact ok_enD (n := 0) h
theorem law_is_deed (ds : List D) (Q : D → Prop) (hl : ds.length = 2) (h : F_is_deed (lbC G) ds Q) : WS ⟨G, B, H⟩ (t_is_deed G) (ent 2 ds) { nx := fun _ => Q .non, rt := Q } := by
  obtain ⟨L, d, rfl, hd, q⟩ := h
  unfold t_is_deed
  walk_at "ws"
  refine rc_isi (b := true) (by decide) (by cases d <;> rfl) ⟨_, rfl, iff_ ?_⟩
  walk_at "ws"
  refine ⟨len1 0, ?_⟩
  refine rd_eq 4 (ok_ddD hd.en) (ok_tup (by simp)) ?_
  rw [eqD_false (ok_ddD hd.en) (ok_tup (n := 0) (by simp)) (by cases d <;> intro e <;> injection e with e <;> cases e)]
  refine ⟨_, rfl, iff_ ?_⟩
  walk_at "ws"
  cases d with
  | undo h n =>
    refine rd_ixT (d := .str "undo") rfl ?_
    walk_at "ws"
    refine rc_isi (b := true) (by decide) rfl ⟨_, rfl, iff_ ?_⟩
    walk_at "ws"
    refine rd_ixT (d := .str "undo") rfl ?_
    walk_at "ws"
    refine rd_eqSS (by decide +kernel) (by decide +kernel) ⟨_, rfl, ift ?_⟩
    walk_at "ws"
    refine rc_lenT ?_
    walk_at "ws"
    refine rd_eqII ⟨_, rfl, ift ?_⟩
    walk_at "ws"
    refine rd_ixT (d := .int h) rfl ?_
    walk_at "ws"
    refine ⟨rfl, h, rfl, hd.1, _, rfl, ift ?_⟩
    walk_at "ws"
    refine rd_ixT (d := .int n) rfl ?_
    walk_at "ws"
    exact ⟨rfl, n, rfl, hd.2, q⟩
  | add e =>
    refine rd_ixT (d := .str "add") rfl ?_
    walk_at "ws"
    refine rc_isi (b := true) (by decide) rfl ⟨_, rfl, iff_ ?_⟩
    walk_at "ws"
    refine rd_ixT (d := .str "add") rfl ?_
    walk_at "ws"
    refine rd_eqSS (by decide +kernel) (by decide +kernel) ⟨_, rfl, iff_ ?_⟩
    walk_at "ws"
    refine rc_lenT ?_
    walk_at "ws"
    refine rd_eqII ⟨_, rfl, ift ?_⟩
    walk_at "ws"
    refine rd_ixT (d := .str "add") rfl ?_
    walk_at "ws"
    refine ⟨line_of (by simp), ?_⟩
    refine rd_inT (xs := ["add", "drop"]) ⟨_, rfl, ift ?_⟩
    walk_at "ws"
    refine rd_ixT (d := enD e) rfl ?_
    walk_at "ws"
    exact ⟨rfl, L, e, rfl, hd, q⟩
  | drop e =>
    refine rd_ixT (d := .str "drop") rfl ?_
    walk_at "ws"
    refine rc_isi (b := true) (by decide) rfl ⟨_, rfl, iff_ ?_⟩
    walk_at "ws"
    refine rd_ixT (d := .str "drop") rfl ?_
    walk_at "ws"
    refine rd_eqSS (by decide +kernel) (by decide +kernel) ⟨_, rfl, iff_ ?_⟩
    walk_at "ws"
    refine rc_lenT ?_
    walk_at "ws"
    refine rd_eqII ⟨_, rfl, ift ?_⟩
    walk_at "ws"
    refine rd_ixT (d := .str "drop") rfl ?_
    walk_at "ws"
    refine ⟨line_of (by simp), ?_⟩
    refine rd_inT (xs := ["add", "drop"]) ⟨_, rfl, ift ?_⟩
    walk_at "ws"
    refine rd_ixT (d := enD e) rfl ?_
    walk_at "ws"
    exact ⟨rfl, L, e, rfl, hd, q⟩
end
end

section
set_option Elab.async false
set_option autoImplicit false
set_option linter.all false
set_option maxRecDepth 100000
set_option maxHeartbeats 4000000
open PySem PySem.Spec PyProof.Rows L2
section
variable {G : Gx} {B : Addr → Prop} {H : Hp}
theorem law_is_record (ds : List D) (Q : D → Prop) (hl : ds.length = 2) (h : F_is_record (lbC G) ds Q) : WS ⟨G, B, H⟩ (t_is_record G) (ent 3 ds) { nx := fun _ => Q .non, rt := Q } := by
  obtain ⟨L, r, rfl, hr, q⟩ := h
  unfold t_is_record
  walk_at "ws"
  refine rc_isi (b := true) (by decide) rfl ⟨_, rfl, iff_ ?_⟩
  walk_at "ws"
  refine rc_lenT ?_
  walk_at "ws"
  refine rd_neII ⟨_, rfl, iff_ ?_⟩
  walk_at "ws"
  refine rd_ixT (d := ddD r.deed) rfl ?_
  walk_at "ws"
  refine ⟨rfl, L, _, rfl, hr.deed, _, rfl, iff_ ?_⟩
  iterate 4 walk_at "w"
  refine (wn_lc1 (α := Int) ⟨_, rfl, rfl⟩ (wi_seq ?_)).e
  walk_at "ws"
  refine rs_tup ?_
  refine ⟨_, rfl, [r.h, r.n, r.day], D.int, fun _ => some (.bl true), rfl, fun x hx a => ?_, ?_⟩
  · walk_at "ws"
    refine ⟨rfl, x, rfl, ?_, rfl⟩
    have h3 : x = r.h ∨ x = r.n ∨ x = r.day := by simpa using hx
    rcases h3 with rfl | rfl | rfl
    · exact hr.h
    · exact hr.n
    · exact hr.day
  · walk_at "ws"
    exact rc_allT q
theorem law_name_of (ds : List D) (Q : D → Prop) (hl : ds.length = 1) (h : F_name_of ds Q) : WS ⟨G, B, H⟩ (t_name_of G) (ent 1 ds) { nx := fun _ => Q .non, rt := Q } := by
  obtain ⟨r, rfl, q⟩ := h
  unfold t_name_of
  walk_at "ws"
  exact rs_tup q
theorem law_rank_of (ds : List D) (Q : D → Prop) (hl : ds.length = 1) (h : F_rank_of ds Q) : WS ⟨G, B, H⟩ (t_rank_of G) (ent 1 ds) { nx := fun _ => Q .non, rt := Q } := by
  obtain ⟨r, rfl, q⟩ := h
  unfold t_rank_of
  walk_at "ws"
  refine rd_ixT (d := .int r.day) rfl ?_
  walk_at "ws"
  refine rd_ixT (d := .int r.h) rfl ?_
  walk_at "ws"
  refine rd_ixT (d := .int r.n) rfl ?_
  walk_at "ws"
  exact ⟨line_of (by simp), q⟩
theorem law_need_records (ds : List D) (Q : D → Prop) (hl : ds.length = 2) (h : F_need_records (lbC G) ds Q) : WS ⟨G, B, H⟩ (t_need_records G) (ent 2 ds) { nx := fun _ => Q .non, rt := Q } := by
  obtain ⟨L, rs, rfl, hr, q⟩ := h
  unfold t_need_records
  walk_at "ws"
  refine ⟨rfl, L, rs, rfl, hr, _, rfl, iff_ ?_⟩
  walk_at "ws"
  exact q
theorem law_need_day (ds : List D) (Q : D → Prop) (hl : ds.length = 1) (h : F_need_day ds Q) : WS ⟨G, B, H⟩ (t_need_day G) (ent 1 ds) { nx := fun _ => Q .non, rt := Q } := by
  obtain ⟨i, rfl, hi, q⟩ := h
  unfold t_need_day
  walk_at "ws"
  refine ⟨rfl, i, rfl, hi, _, rfl, iff_ ?_⟩
  walk_at "ws"
  exact q
/-- a record's name -/
abbrev nm2 (r : Rc) : List Int := [r.h, r.n]
abbrev iD (k : List Int) : D := .tup (k.map D.int)
theorem ok_iD {n : Nat} {k : List Int} : okD (n + 1) (iD k) = true := ok_tup (ok_map fun _ _ => ok_int)
theorem alike_iD (a b : List Int) (h : a.length = b.length) : PySem.W.alike (pyT (iD a)) (pyT (iD b)) = true := by
  rw [pyT_ints, pyT_ints]
  unfold kP
  rw [PySem.W.alike]
  exact ints_alike a b
theorem srt_iD (ks : List (List Int)) : srtD (ks.map iD) = (ks.mergeSort fun a b => !lx b a).map iD := by
  unfold srtD
  exact (List.map_mergeSort fun a _ b _ => (leD_ints a b).symm).symm
theorem lin_lx : Lin fun a b : List Int => !lx b a := by
  have h := lin_data kP
  have e : (PySem.W.dataLe false kP) = fun a b => !lx b a := by
    funext a b
    exact le_kP a b
  rw [e] at h
  exact h
theorem law_are_records (ds : List D) (Q : D → Prop) (hl : ds.length = 2) (h : F_are_records (lbC G) ds Q) : WS ⟨G, B, H⟩ (t_are_records G) (ent 6 ds) { nx := fun _ => Q .non, rt := Q } := by
  obtain ⟨L, rs, rfl, hr, q⟩ := h
  unfold t_are_records
  walk_at "ws"
  refine rc_isi (b := true) (by decide) rfl ⟨_, rfl, iff_ ?_⟩
  iterate 4 walk_at "w"
  refine (wn_lc1 (α := Rc) ⟨_, rfl, rfl⟩ (wi_seq ?_)).e
  walk_at "ws"
  refine ⟨rs, rcD, fun _ => some (.bl true), rfl, fun x hx a => ?_, ?_⟩
  · walk_at "ws"
    exact ⟨rfl, L, x, rfl, hr.ok x hx, rfl⟩
  · walk_at "ws"
    refine rc_allT ⟨_, rfl, iff_ ?_⟩
    iterate 3 walk_at "w"
    refine (wn_cb ?_).e
    walk_at "w"
    refine (wn_lc1 (α := Rc) ⟨_, rfl, rfl⟩ (wi_seq ?_)).e
    walk_at "ws"
    refine ⟨rs, rcD, fun r => some (iD (nm2 r)), rfl, fun x hx a => ?_, ?_⟩
    · walk_at "ws"
      exact ⟨rfl, x, rfl, rfl⟩
    · walk_at "ws"
      rw [fm_some (fun r => iD (nm2 r))]
      have em : (rs.map fun r => iD (nm2 r)) = (rs.map nm2).map iD := by rw [List.map_map]; rfl
      rw [em]
      refine rcn_sorted 1 rfl (okDs_all.mpr (ok_map fun _ _ => ok_iD)) (fun d hd e he => ?_) (.inl fun d hd => ?_) ?_
      · obtain ⟨k, hk, rfl⟩ := List.mem_map.mp hd
        obtain ⟨l, hl, rfl⟩ := List.mem_map.mp he
        obtain ⟨r, _, rfl⟩ := List.mem_map.mp hk
        obtain ⟨s, _, rfl⟩ := List.mem_map.mp hl
        exact alike_iD _ _ rfl
      · obtain ⟨k, hk, rfl⟩ := List.mem_map.mp hd
        obtain ⟨l, hl, rfl⟩ := List.mem_map.mp hk
        obtain ⟨r, _, rfl⟩ := List.mem_map.mp hl
        exact ⟨_, _, pyT_ints _⟩
      · rw [srt_iD]
        have nd : ((rs.map nm2).mergeSort fun a b => !lx b a).Nodup := by
          refine (srt_perm _ _).nodup_iff.mpr ?_
          have e2 : rs.map nm2 = (rs.map fun r => (r.h, r.n)).map fun p => [p.1, p.2] := by rw [List.map_map]; rfl
          rw [e2]
          refine List.Pairwise.map _ (fun a b hab e => hab ?_) hr.nd
          have e3 : a.1 = b.1 ∧ a.2 = b.2 := by simpa using e
          exact Prod.ext e3.1 e3.2
        have pw := List.pairwise_and_iff.mpr ⟨srt_pw lin_lx (rs.map nm2), nd⟩
        generalize ((rs.map nm2).mergeSort fun a b => !lx b a) = ks at pw
        iterate 3 walk_at "w"
        refine (wn_lc2 (α := List Int × List Int) (i := 4) (j := 5) ⟨_, rfl, rfl⟩ ⟨_, rfl, rfl⟩ (by decide) (wi_zip ?_)).e
        iterate 3 walk_at "w"
        refine (wn_sl ?_).e
        walk_at "ws"
        refine rsn_lst ?_
        walk_at "ws"
        refine ⟨ks.zip (ks.drop 1), fun z => iD z.1, fun z => iD z.2, fun _ => some (.bl true), by rw [cut_next]; exact zip_next _ _, fun z hz a => ?_, ?_⟩
        · walk_at "ws"
          refine rd_ltT ?_
          obtain ⟨p1, p2⟩ := pw_zip pw z hz
          have e4 : lx z.1 z.2 = true := by
            cases e : lx z.1 z.2 with
            | true => rfl
            | false => exact absurd (lx_tri e (by simpa using p1)) p2
          rw [show HT.lexLt z.1 z.2 = true from e4]
        · walk_at "ws"
          exact rc_allT q
end
end

section
set_option Elab.async false
set_option autoImplicit false
set_option linter.all false
set_option maxRecDepth 100000
set_option maxHeartbeats 4000000
open PySem PySem.Spec PyProof.Rows L2
section
variable {G : Gx} {B : Addr → Prop} {H : Hp}
theorem ok_head {e : En} {n : Nat} (h : EnOk e) : okD (n + 1) (.tup [.str e.sort, .str e.name]) = true := ok_tup fun d hd => by
  have h2 : d = .str e.sort ∨ d = .str e.name := by simpa using hd
  rcases h2 with rfl | rfl
  · exact ok_str (sOk_of_sorts h.sort)
  · exact ok_str h.nok
theorem fm_filter {α β : Type} (p : α → Prop) [DecidablePred p] (f : α → β) (xs : List α) : (xs.filterMap fun o => if p o then some (f o) else none) = (xs.filter fun o => decide (p o)).map f := by
  induction xs with
  | nil => rfl
  | cons x xs ih =>
    by_cases h : p x
    · rw [List.filterMap_cons_some (f := fun o => if p o then some (f o) else none) (if_pos h), List.filter_cons, if_pos (decide_eq_true h), List.map_cons, ih]
    · rw [List.filterMap_cons_none (f := fun o => if p o then some (f o) else none) (if_neg h), List.filter_cons, if_neg (by simpa using h), ih]
theorem pD_inj {a b : Pt} (h : pD a = pD b) : a = b := by
  injection h with h
  exact map_inj (fun {x y} e => by injection e) h
theorem enD_inj {a b : En} (h : enD a = enD b) : a = b := by
  cases a
  cases b
  injection h with h
  injection h with h1 h
  injection h with h2 h
  injection h with h3 h
  injection h with h4 h
  injection h1 with h1
  injection h2 with h2
  injection h3 with h3
  have h5 := map_inj (fun {x y} e => pD_inj e) h3
  have h6 := pD_inj h4
  dsimp only at h1 h2 h5 h6
  subst h1 h2 h5 h6
  rfl
theorem law_by_names (ds : List D) (Q : D → Prop) (hl : ds.length = 1) (h : F_by_names ds Q) : WS ⟨G, B, H⟩ (t_by_names G) (ent 3 ds) { nx := fun _ => Q .non, rt := Q } := by
  obtain ⟨es, rfl, he, hs, q⟩ := h
  unfold t_by_names
  walk_at "w"
  refine we_dcT (α := En) ⟨_, rfl, rfl⟩ (wi_seq ?_)
  walk_at "ws"
  refine ⟨by omega, fun e hx p => ?_, q⟩
  refine wk_sl ?_
  walk_at "ws"
  refine ⟨_, [.inr e.sort, .inr e.name], rfl, rfl, (by show ¬ (HT.sIx 4 0 none = 0 ∧ HT.sIx 4 4 (some 2) = 4); decide), ?_⟩
  iterate 2 walk_at "w"
  refine (wn_lc1 (α := En) ⟨_, rfl, rfl⟩ (wi_seq ?_)).e
  walk_at "ws"
  refine ⟨es, enD, fun o => if o.sort = e.sort ∧ o.name = e.name then some (enD o) else none, rfl, fun o ho p2 => ?_, ?_⟩
  · walk_at "ws"
    refine rs_tup ?_
    walk_at "ws"
    refine rs_tup ?_
    rw [cut_four, cut_four]
    refine rd_eq 1 (ok_head (he o ho)) (ok_head (he e hx)) ⟨_, rfl, ?_⟩
    by_cases h1 : o.sort = e.sort ∧ o.name = e.name
    · rw [h1.1, h1.2, eqD_same (ok_head (n := 0) (he e hx))]
      refine ift ?_
      walk_at "ws"
      simp [h1.1, h1.2]
    · rw [eqD_false (ok_head (n := 0) (he o ho)) (ok_head (n := 0) (he e hx)) (fun z => by
        injection z with z
        injection z with z1 z2
        injection z2 with z2 z3
        injection z1 with z1
        injection z2 with z2
        exact h1 ⟨z1, z2⟩)]
      refine iff_ ?_
      exact if_neg h1
  · walk_at "ws"
    exact rc_tupL trivial
theorem law_by_rank (ds : List D) (Q : D → Prop) (hl : ds.length = 1) (h : F_by_rank ds Q) : WS ⟨G, B, H⟩ (t_by_rank G) (ent 1 ds) { nx := fun _ => Q .non, rt := Q } := by
  obtain ⟨rs, rfl, q⟩ := h
  unfold t_by_rank
  walk_at "w"
  refine (wn_sortKF (α := Rc) ?_).e
  refine (wn_cb ?_).e
  walk_at "ws"
  exact rcn_lst rfl ⟨rs, rcD, rk3, rfl, fun z _ => ⟨by simp [rk3], z, rfl, rfl⟩, q⟩
theorem law_entries_behind (ds : List D) (Q : D → Prop) (hl : ds.length = 2) (h : F_entries_behind ds Q) : WS ⟨G, B, H⟩ (t_entries_behind G) (ent 5 ds) { nx := fun _ => Q .non, rt := Q } := by
  obtain ⟨es, d, rfl, hp, he, hd, hs, q⟩ := h
  unfold t_entries_behind
  cases d with
  | undo a b => cases hp
  | drop e =>
    have oe := hd e (.inr rfl)
    iterate 2 walk_at "w"
    walk_at "ws"
    refine rd_eqSS (by decide +kernel) (by decide +kernel) ⟨_, rfl, ift ?_⟩
    walk_at "w"
    refine (wn_lc1 (α := En) ⟨_, rfl, rfl⟩ (wi_seq ?_)).e
    walk_at "ws"
    refine ⟨es, enD, fun o => if o ≠ e then some (enD o) else none, rfl, fun o ho p => ?_, ?_⟩
    · walk_at "ws"
      refine rd_ne 3 (ok_enD (n := 0) (he o ho)) (ok_enD (n := 0) oe) ⟨_, rfl, ?_⟩
      by_cases e1 : o = e
      · subst e1
        rw [eqD_same (ok_enD (n := 0) oe)]
        refine iff_ ?_
        simp
      · rw [eqD_false (ok_enD (n := 0) (he o ho)) (ok_enD (n := 0) oe) (fun z => e1 (enD_inj z))]
        refine ift ?_
        walk_at "ws"
        simp [e1]
    · have e2 : (es.filterMap fun o => if o ≠ e then some (enD o) else none) = (behind es (.drop e)).map enD := by
        rw [fm_filter (fun o => o ≠ e)]
        rfl
      rw [e2]
      exact q
  | add e =>
    have oe := hd e (.inl rfl)
    iterate 2 walk_at "w"
    walk_at "ws"
    refine rd_eqSS (by decide +kernel) (by decide +kernel) ⟨_, rfl, iff_ ?_⟩
    walk_at "ws"
    refine ⟨rfl, e, _, es, rfl, rfl, oe, he, fun x hx hc => ?_, fun hn => ?_⟩
    · walk_at "ws"
      refine rd_notN isn_tup ⟨_, rfl, ift ?_⟩
      walk_at "ws"
      have e2 : behind es (.add e) = es := by
        unfold behind
        exact if_pos ⟨x, hx, hc⟩
      rw [e2] at q
      exact q
    · walk_at "ws"
      refine rd_notN isn_non ⟨_, rfl, iff_ ?_⟩
      refine (wn_lst ?_).e
      walk_at "ws"
      have e2 : behind es (.add e) = es ++ [e] := by
        unfold behind
        exact if_neg fun ⟨x, hx, hc⟩ => hn x hx hc
      rw [e2, List.map_append] at q
      exact ⟨le_line (by rw [List.length_append, List.length_map]; simp; omega), q⟩
end
end

section
set_option Elab.async false
set_option autoImplicit false
set_option linter.all false
set_option maxRecDepth 100000
set_option maxHeartbeats 4000000
open PySem PySem.Spec PyProof.Rows L2
section
variable {G : Gx} {B : Addr → Prop} {H : Hp}
theorem putD_any {κ : Type} [DecidableEq κ] (k k' : κ) (v : D) (kvs : List (κ × D)) : ((putD kvs k v).any fun p => decide (p.1 = k')) = ((kvs.any fun p => decide (p.1 = k')) || decide (k = k')) := by
  unfold putD
  split
  · rename_i h
    have key : ∀ l : List (κ × D), ((l.map fun kv => if kv.1 = k then (kv.1, v) else kv).any fun p => decide (p.1 = k')) = l.any fun p => decide (p.1 = k') := fun l => by
      induction l with
      | nil => rfl
      | cons x xs ih =>
        rw [List.map_cons, List.any_cons, List.any_cons, ih]
        split <;> rfl
    rw [key]
    by_cases e : k = k'
    · subst e
      rw [h, Bool.true_or]
    · rw [decide_eq_false e, Bool.or_false]
  · rw [List.any_append]
    simp
theorem putD_len {κ : Type} [DecidableEq κ] (k : κ) (v : D) (kvs : List (κ × D)) : (putD kvs k v).length ≤ kvs.length + 1 := by
  unfold putD
  split
  · rw [List.length_map]
    omega
  · simp
/-- the dict of names undone says what the list of them says -/
structure Und (kvs : List (List Key × D)) (us : List (Int × Int)) (n : Nat) : Prop where
  has : ∀ a b : Int, (kvs.any fun p => decide (p.1 = [.inl a, .inl b])) = decide ((a, b) ∈ us)
  len : kvs.length ≤ n
theorem Und.put {kvs : List (List Key × D)} {us : List (Int × Int)} {n : Nat} (h : Und kvs us n) (a b : Int) (v : D) : Und (putD kvs [.inl a, .inl b] v) (us ++ [(a, b)]) (n + 1) := by
  refine ⟨fun c d => ?_, by have := putD_len [Sum.inl a, Sum.inl b] v kvs; have := h.len; omega⟩
  rw [putD_any, h.has]
  have e : (([.inl a, .inl b] : List Key) = [.inl c, .inl d]) ↔ (a, b) = (c, d) := by simp
  by_cases h1 : (a, b) = (c, d)
  · rw [decide_eq_true (e.mpr h1), Bool.or_true, decide_eq_true]
    rw [h1]
    simp
  · rw [decide_eq_false (fun z => h1 (e.mp z)), Bool.or_false]
    refine decide_eq_decide.mpr ⟨fun z => List.mem_append_left _ z, fun z => ?_⟩
    rcases List.mem_append.mp z with z | z
    · exact z
    · exact absurd (by simpa using z) (Ne.symm h1)
def lvAt (done : List Rc) : List Rc × List (Int × Int) := done.foldl lvStep ([], [])
theorem lvAt_snoc (done : List Rc) (r : Rc) : lvAt (done ++ [r]) = lvStep (lvAt done) r := by
  unfold lvAt
  rw [List.foldl_append]
  rfl
theorem fold_len : ∀ (done : List Rc) (st : List Rc × List (Int × Int)), (done.foldl lvStep st).1.length ≤ st.1.length + done.length
  | [], st => Nat.le_refl _
  | x :: xs, st => by
    have h := fold_len xs (lvStep st x)
    have h2 : (lvStep st x).1.length ≤ st.1.length + 1 := by
      unfold lvStep
      split <;> simp
    rw [List.foldl_cons, List.length_cons]
    omega
theorem lvAt_len (done : List Rc) : (lvAt done).1.length ≤ done.length := by
  have := fold_len done ([], [])
  simpa [lvAt] using this
theorem law_live_in (ds : List D) (Q : D → Prop) (hl : ds.length = 2) (h : F_live_in ds Q) : WS ⟨G, B, H⟩ (t_live_in G) (ent 5 ds) { nx := fun _ => Q .non, rt := Q } := by
  obtain ⟨rs, day, rfl, hz, q⟩ := h
  unfold t_live_in
  refine ws_seq (ws_parLT fun p r => ?_)
  refine ws_seq (ws_for1 rcD (srtR (rs.filter fun r => decide (r.day ≤ day))).reverse (fun done ρ => ∃ kvs s, s.ads = [] ∧ ρ = [.d (.tup (rs.map rcD)), .d (.int day), .own p (.lst ((lvAt done).1.map rcD)), .own r (.dT kvs), s] ∧ Und kvs (lvAt done).2 done.length) (wi_seq ?_))
  refine (wn_rev ?_).e
  iterate 2 walk_at "w"
  refine (wn_lc1 (α := Rc) ⟨_, rfl, rfl⟩ (wi_seq ?_)).e
  walk_at "ws"
  refine ⟨rs, rcD, fun r => if r.day ≤ day then some (rcD r) else none, rfl, fun z hz p2 => ?_, ?_⟩
  · walk_at "ws"
    refine rd_ixT (d := .int z.day) rfl ?_
    walk_at "ws"
    refine rd_le ⟨_, rfl, ifd (fun h1 => ?_) fun h1 => ?_⟩
    · walk_at "ws"
      exact if_pos h1
    · exact if_neg h1
  · rw [fm_filter (fun r : Rc => r.day ≤ day)]
    walk_at "ws"
    refine ⟨rfl, _, rfl, _, rfl, _, rfl, ?_⟩
    have lz : (srtR (rs.filter fun r => decide (r.day ≤ day))).reverse.length ≤ 100 := by
      unfold srtR
      rw [List.length_reverse, List.length_mergeSort]
      exact Nat.le_trans (List.length_filter_le _ _) hz
    refine ⟨by rw [List.map_reverse], ⟨[], _, rfl, rfl, ⟨fun _ _ => by simp [lvAt], Nat.le_refl _⟩⟩, ?_, ?_⟩
    · rintro zp z zq ρ' ez ⟨kvs, s, hs, rfl, U⟩
      have lp : zp.length ≤ 100 := by
        rw [ez, List.length_append] at lz
        omega
      have lv := lvAt_len zp
      refine ws_if (wt_B (we_dnotinT 3 rfl ?_))
      walk_at "ws"
      refine ⟨rfl, z, rfl, [.inl z.h, .inl z.n], rfl, ?_⟩
      rw [U.has]
      refine ⟨_, rfl, ifnd (fun hn => ?_) fun hm => ?_⟩
      · refine ws_seq (ws_app (i := 2) rfl (by rw [List.length_map]; omega) ?_)
        walk_at "ws"
        refine rd_ixT (d := ddD z.deed) rfl ?_
        walk_at "ws"
        cases hd : z.deed with
        | undo a b =>
          have e : lvAt (zp ++ [z]) = ((lvAt zp).1 ++ [z], (lvAt zp).2 ++ [(a, b)]) := by
            rw [lvAt_snoc]
            unfold lvStep
            rw [if_neg hn, hd]
          refine rd_ixT (d := .str "undo") rfl ?_
          walk_at "ws"
          refine rd_eqSS (by decide +kernel) (by decide +kernel) ⟨_, rfl, ift ?_⟩
          refine ws_dputT 3 rfl (by have := U.len; omega) ?_
          walk_at "w"
          refine wk_sl ?_
          walk_at "ws"
          refine rd_ixT (d := ddD z.deed) rfl ?_
          rw [hd]
          walk_at "ws"
          refine ⟨_, [.inl a, .inl b], rfl, rfl, (by show ¬ (HT.sIx 3 0 (some 1) = 0 ∧ HT.sIx 3 3 none = 3); decide), ?_⟩
          refine ⟨_, _, rfl, by rw [e, List.map_append]; rfl, ?_⟩
          rw [e, List.length_append]
          exact U.put a b _
        | add en =>
          have e : lvAt (zp ++ [z]) = ((lvAt zp).1 ++ [z], (lvAt zp).2) := by
            rw [lvAt_snoc]
            unfold lvStep
            rw [if_neg hn, hd]
          refine rd_ixT (d := .str "add") rfl ?_
          walk_at "ws"
          refine rd_eqSS (by decide +kernel) (by decide +kernel) ⟨_, rfl, iff_ ?_⟩
          walk_at "w"
          refine ⟨_, _, rfl, by rw [e, List.map_append]; rfl, ?_⟩
          rw [e, List.length_append]
          exact ⟨U.has, by have := U.len; omega⟩
        | drop en =>
          have e : lvAt (zp ++ [z]) = ((lvAt zp).1 ++ [z], (lvAt zp).2) := by
            rw [lvAt_snoc]
            unfold lvStep
            rw [if_neg hn, hd]
          refine rd_ixT (d := .str "drop") rfl ?_
          walk_at "ws"
          refine rd_eqSS (by decide +kernel) (by decide +kernel) ⟨_, rfl, iff_ ?_⟩
          walk_at "w"
          refine ⟨_, _, rfl, by rw [e, List.map_append]; rfl, ?_⟩
          rw [e, List.length_append]
          exact ⟨U.has, by have := U.len; omega⟩
      · have e : lvAt (zp ++ [z]) = lvAt zp := by
          rw [lvAt_snoc]
          unfold lvStep
          rw [if_pos hm]
        walk_at "w"
        refine ⟨_, _, rfl, by rw [e]; rfl, ?_⟩
        rw [e, List.length_append]
        exact ⟨U.has, by have := U.len; omega⟩
    · rintro ρ' ⟨kvs, s, hs, rfl, U⟩
      refine ws_release 2 rfl ?_
      walk_at "w"
      refine (wn_rev ?_).e
      walk_at "ws"
      have e : ((lvAt (srtR (rs.filter fun r => decide (r.day ≤ day))).reverse).1.map rcD).reverse = (liveR rs day).map rcD := by
        unfold liveR lvAt
        rw [List.map_reverse]
      rw [e]
      exact q
end
end

section
set_option Elab.async false
set_option autoImplicit false
set_option linter.all false
set_option maxRecDepth 100000
set_option maxHeartbeats 4000000
open PySem PySem.Spec PyProof.Rows L2
section
variable {G : Gx} {B : Addr → Prop} {H : Hp}
theorem alike_strs : ∀ p q : List Str, PySem.W.alikeAll (pyTs (p.map D.str)) (pyTs (q.map D.str)) = true
  | [], [] => by simp [pyTs, PySem.W.alikeAll]
  | [], _ :: _ => by simp [pyTs, PySem.W.alikeAll]
  | _ :: _, [] => by simp [pyTs, PySem.W.alikeAll]
  | a :: p, b :: q => by simp [pyTs, pyT, PySem.W.alikeAll, PySem.W.alike, alike_strs p q]
theorem alike_pts : ∀ p q : List Pt, PySem.W.alikeAll (pyTs (p.map pD)) (pyTs (q.map pD)) = true
  | [], [] => by simp [pyTs, PySem.W.alikeAll]
  | [], _ :: _ => by simp [pyTs, PySem.W.alikeAll]
  | _ :: _, [] => by simp [pyTs, PySem.W.alikeAll]
  | a :: p, b :: q => by simp [pyTs, pyT, PySem.W.alikeAll, PySem.W.alike, alike_strs a b, alike_pts p q]
theorem alike_enD (a b : En) : PySem.W.alike (pyT (enD a)) (pyT (enD b)) = true := by
  simp [pyTs, pyT, PySem.W.alikeAll, PySem.W.alike, alike_strs, alike_pts]
theorem srtE_D (es : List En) : srtD (es.map enD) = (srtE es).map enD := by
  unfold srtD srtE
  exact (List.map_mergeSort (f := enD) (r := leE) (s := leD) fun a _ b _ => rfl).symm
theorem rcn_srtE {es : List En} {x : D} {Q : List D → Prop} (hx : itemsD x = some (es.map enD)) (he : ∀ e ∈ es, EnOk e) (q : Q ((srtE es).map enD)) : RCN G (rSortedD G.K) [x] Q := by
  refine rcn_sorted 3 hx (okDs_all.mpr (ok_map fun e he' => ok_enD (n := 0) (he e he'))) (fun d hd e he' => ?_) (.inl fun d hd => ?_) (by rw [srtE_D]; exact q)
  · obtain ⟨k, hk, rfl⟩ := List.mem_map.mp hd
    obtain ⟨l, hl, rfl⟩ := List.mem_map.mp he'
    exact alike_enD k l
  · obtain ⟨k, hk, rfl⟩ := List.mem_map.mp hd
    obtain ⟨l, hl, rfl⟩ := List.mem_map.mp hk
    exact ⟨_, _, by rw [pyT, pyTs]⟩
/-- slots at __init__'s entry -/
def entI (C x dx : Addr) (L : Lby) : List Sl := [.own x (.ins C dx []), .d (pD L.bases), .d (pD L.cons), .d (oD L.nu), .d (oD L.qu), .d (oD L.tr), .d (esD L.es), .no]
theorem law_init (hL : LbK G.K (lbC G)) (x dx : Addr) (L : Lby) (ok : LbOk L) : WS ⟨G, B, H⟩ (t_Library___init__ G) (entI (lbC G) x dx L) { nx := fun ρ => ρ[0]? = some (.own x (.ins (lbC G) dx (lbF (sortd L)))), rt := fun _ => False } := by
  unfold t_Library___init__
  walk_at "ws"
  refine ⟨rfl, L.bases, L.cons, rfl, ok.bc, ?_⟩
  walk_at "w"
  refine ws_for1 enD L.es (fun _ ρ => ∃ s, s.ads = [] ∧ ρ = (entI (lbC G) x dx L).set 7 s) (wi_seq ?_)
  walk_at "ws"
  refine ⟨rfl, ⟨_, rfl, rfl⟩, ?_, ?_⟩
  · rintro zp z zq ρ' ez ⟨s, hs, rfl⟩
    walk_at "ws"
    refine ⟨rfl, z, _, _, rfl, ok.es z (by rw [ez]; simp), _, rfl, iff_ ?_⟩
    walk_at "w"
    exact ⟨.d (enD z), rfl, rfl⟩
  · rintro ρ' ⟨s, hs, rfl⟩
    walk_at "ws"
    refine ⟨rfl, _, _, _, rfl, ok.nu, ?_⟩
    walk_at "ws"
    refine ⟨rfl, _, _, _, rfl, ok.qu, ?_⟩
    walk_at "ws"
    refine ⟨rfl, _, _, _, rfl, ok.tr, ?_⟩
    walk_at "ws"
    have hen : ∀ e ∈ L.es, EnOk e := fun e he => (ok.es e he).ok
    refine ⟨rfl, L.es, rfl, hen, ok.nc, ?_⟩
    walk_at "w"
    refine ws_fset 0 rfl hL.cls (hL.no _ (by simp)) (by simp) (by simp <;> decide +kernel) ?_
    walk_at "ws"
    refine ws_fset 0 rfl hL.cls (hL.no _ (by simp)) (by simp) (by simp <;> decide +kernel) ?_
    walk_at "ws"
    refine ws_fset 0 rfl hL.cls (hL.no _ (by simp)) (by simp) (by simp <;> decide +kernel) ?_
    walk_at "ws"
    refine ws_fset 0 rfl hL.cls (hL.no _ (by simp)) (by simp) (by simp <;> decide +kernel) ?_
    walk_at "ws"
    refine ws_fset 0 rfl hL.cls (hL.no _ (by simp)) (by simp) (by simp <;> decide +kernel) ?_
    walk_at "ws"
    refine ws_fset 0 rfl hL.cls (hL.no _ (by simp)) (by simp) (by simp <;> decide +kernel) ?_
    iterate 2 walk_at "w"
    refine (wn_cb ?_).e
    walk_at "ws"
    refine rcn_srtE rfl hen ?_
    walk_at "ws"
    refine rc_tupL ?_
    refine ws_fset 0 rfl hL.cls (hL.no _ (by simp)) (by simp) (by simp <;> decide +kernel) ?_
    iterate 2 walk_at "w"
    refine we_fldO 0 rfl hL.cls (hL.no _ (by simp)) rfl ?_
    walk_at "w"
    have pe := List.mergeSort_perm L.es leE
    exact ⟨rfl, srtE L.es, rfl, fun e he => hen e (pe.mem_iff.mp he), by rw [show (srtE L.es).length = L.es.length from List.length_mergeSort _]; exact ok.short, rfl⟩
end
end

section
set_option Elab.async false
set_option autoImplicit false
set_option linter.all false
set_option maxRecDepth 100000
set_option maxHeartbeats 4000000
open PySem PySem.Spec PyProof.Rows L2
section
variable {G : Gx}
theorem init_end (hL : LbK G.K (lbC G)) {vs : List V} {H : Hp} {Q : VK} {E : XK} (h : sp_init G vs H Q E) : t_Library___init__ G { nx := fun _ H' => Q .non H', rt := Q } (L2.start N_Library___init__ vs) H := by
  obtain ⟨B, H0, x, dx, us, L, rfl, nx, ex, hx, al, tb, q, ok, k⟩ := h
  have nB : ¬ B x := al.fresh nx
  have key : ∀ {v : V} {d : D}, Dq G (wth B x) H v d → Dq G (hid B (entI (lbC G) x dx L)) H v d := fun h => h.less fun a z => by
    rcases z with z | z
    · exact .inl z
    · exact .inr (by simpa [owns, entI, Sl.ads, OC.more] using z)
  cases q with
  | @cons v1 _ _ _ q1 q =>
  cases q with
  | @cons v2 _ _ _ q2 q =>
  cases q with
  | @cons v3 _ _ _ q3 q =>
  cases q with
  | @cons v4 _ _ _ q4 q =>
  cases q with
  | @cons v5 _ _ _ q5 q =>
  cases q with
  | @cons v6 _ _ _ q6 q =>
  cases q
  have R : Rho G B H0 H (L2.start N_Library___init__ [V.ref x, v1, v2, v3, v4, v5, v6]) (entI (lbC G) x dx L) := by
    refine ⟨tb, ex, fun a h => ?_, fun a h => ?_, rfl, fun i s hs => ?_, fun a h => ?_, fun a h => ?_, by simp [owns, entI, Sl.ads, OC.more]⟩
    · exact fun z => al a h (nf ex z)
    · have e : a = x := by simpa [owns, entI, Sl.ads, OC.more] using h
      subst e
      exact nB
    · match i, hs with
      | 0, hs => cases hs; exact ⟨_, rfl, rfl, [], hx, rfl, .nil⟩
      | 1, hs => cases hs; exact ⟨_, rfl, _, rfl, key q1⟩
      | 2, hs => cases hs; exact ⟨_, rfl, _, rfl, key q2⟩
      | 3, hs => cases hs; exact ⟨_, rfl, _, rfl, key q3⟩
      | 4, hs => cases hs; exact ⟨_, rfl, _, rfl, key q4⟩
      | 5, hs => cases hs; exact ⟨_, rfl, _, rfl, key q5⟩
      | 6, hs => cases hs; exact ⟨_, rfl, _, rfl, key q6⟩
      | 7, hs => cases hs; exact ⟨_, rfl, trivial⟩
      | n + 8, hs => cases hs
    · have e : a = x := by simpa [owns, entI, Sl.ads, OC.more] using h
      subst e
      exact nx
    · have e : a = x := by simpa [owns, entI, Sl.ads, OC.more] using h
      subst e
      rw [hx]
      exact fun z => nomatch z
  refine law_init (B := B) (H := H0) hL x dx L ok _ H _ R ⟨fun σ' H' ρ' R' _ z => ?_, fun v H' d e q z => z.elim, fun _ _ _ _ _ z => z.elim, fun _ _ _ _ _ z => z.elim⟩
  obtain ⟨_, fs, h2, hk, r⟩ := R'.varO z
  refine k H' fs R'.ex h2 hk (r.less fun a z2 => ?_)
  rcases z2 with z2 | z2
  · exact .inl z2
  · subst z2
    exact .inr (mem_owns z (by simp [Sl.ads]))
theorem we_makeSK {S : Sc} {ρ : List Sl} {tf : TE} {t tk : TA} {Q : D → Prop} (h : WE S tf ρ fun d => d = .adr (lbC S.G) ∧ WA S t ρ fun as => WA S tk ρ fun ks => ∃ L : Lby, as = pD L.bases :: pD L.cons :: L.es.map enD ∧ ks = [oD L.nu, oD L.qu, oD L.tr] ∧ LbOk L ∧ Q (lbD (lbC S.G) (sortd L))) :
    WE S (tMakeSK (lbC S.G) 2 3 (sp_init S.G) tf t tk) ρ Q := fun σ H R Qv k =>
  h σ H R _ fun v H1 d e1 q1 ⟨ed, h2⟩ => by
    subst ed
    cases q1
    refine ⟨rfl, h2 σ H1 (R.mono e1) _ fun vs H2 as e2 q2 h3 => h3 σ H2 (R.mono (e1.trans e2)) _ fun zs H3 ks e3 q3 ⟨L, ea, ek, ok, hq⟩ => ?_⟩
    subst ea ek
    have q2' := q2.mono e3
    cases q2' with
    | cons b1 q2' => cases q2' with
    | @cons b _ _ _ b2 qe =>
    rename_i a es
    refine ⟨[a, b], es, rfl, rfl, q3.length, by rw [qe.length, List.length_map]; exact line_of (by have := ok.short; omega), fun x dx p hx hd hxd hp => ?_⟩
    have e123 : Ex S.G H H3 := e1.trans (e2.trans e3)
    have R3 := R.mono e123
    have x1 : Ex S.G H3 (upd H3 dx (.own x)) := Ex.new hd
    have hx1 : upd H3 dx (.own x) x = none := by rw [upd_ne (Ne.symm hxd)]; exact hx
    have x2 : Ex S.G (upd H3 dx (.own x)) (upd (upd H3 dx (.own x)) x (.ins (lbC S.G) dx [])) := Ex.new hx1
    have px : p ≠ x := fun e => by
      rw [e, upd_same] at hp
      cases hp
    have x3 : Ex S.G (upd (upd H3 dx (.own x)) x (.ins (lbC S.G) dx [])) (upd (upd (upd H3 dx (.own x)) x (.ins (lbC S.G) dx [])) p (.tup es)) := Ex.new hp
    have xx := x1.trans (x2.trans x3)
    have qq : ∀ {vs : List V} {ds : List D}, DqL S.G (hid S.B ρ) H3 vs ds → DqL S.G (wth (hid S.B ρ) x) (upd (upd (upd H3 dx (.own x)) x (.ins (lbC S.G) dx [])) p (.tup es)) vs ds := fun h => (h.fresh hx).mono xx
    refine ⟨hid S.B ρ, H3, x, dx, [a, b] ++ zs ++ [V.ref p], L, rfl, hx, xx, ?_, R3.alc, xx.t R3.tb, ?_, ok, fun H' fs e' h' hk r => ⟨rfl, ?_⟩⟩
    · rw [upd_ne (Ne.symm px)]
      exact upd_same
    · have w1 : DqL S.G (hid S.B ρ) H3 [a, b] [pD L.bases, pD L.cons] := .cons b1 (.cons b2 .nil)
      exact ((qq w1).append (qq q3)).append (.cons (.tup (SqT.of upd_same) (qq qe)) .nil)
    · refine k (.ref x) H' _ (e123.trans e') (.ins h' (fun z => R3.alc _ z hx) hk (r.less fun a z => .inl z)) hq
theorem law_of (ds : List D) (Q : D → Prop) {B : Addr → Prop} {H : Hp} (hl : ds.length = 7) (h : F_of (lbC G) ds Q) : WS ⟨G, B, H⟩ (t_Library_of G) (ent 7 ds) { nx := fun _ => Q .non, rt := Q } := by
  obtain ⟨L, rfl, ok, q⟩ := h
  unfold t_Library_of
  walk_at "ws"
  refine ⟨rfl, L.bases, L.cons, rfl, ok.bc, ?_⟩
  walk_at "ws"
  refine rc_isi (b := true) (by decide) rfl ⟨_, rfl, iff_ ?_⟩
  walk_at "ws"
  refine we_makeSK (S := ⟨G, B, H⟩) ?_
  walk_at "ws"
  refine ⟨rfl, ?_⟩
  walk_at "ws"
  exact ⟨L, by simp, rfl, ok, q⟩
end
end

section
set_option Elab.async false
set_option autoImplicit false
set_option linter.all false
set_option maxRecDepth 100000
set_option maxHeartbeats 4000000
open PySem PySem.Spec PyProof.Rows L2
abbrev sI : Stmt := inClass (top 63) 0
abbrev sO : Stmt := inClass (top 63) 1
abbrev sE : Stmt := inClass (top 63) 3
def psI : List Str := ["self", "bases", "constructors", "number", "quote", "truth"]
def ksL : List Str := ["number", "quote", "truth"]
def psO : List Str := ["cls", "bases", "constructors", "entries", "number", "quote", "truth"]
theorem bI (qual : Str) (dV kV doc pm cdv ct : Value) (an : Option Addr) (hD : dV = .none) (us rest ws : List Value) (h1 : us.length + ksL.length = psI.length) (h2 : ws.length = ksL.length) : bindArgs (PySem.W.fnOf "__init__" qual (defArgs sI) (defBody sI) (defScope sI) dV kV doc pm an cdv ct) ⟨us ++ rest, ksL.zip ws⟩ =
   (newTuple rest >>= fun e => pure (psI.zip (us ++ ws) ++ [(("entries" : Str), e)])) := by
  subst hD
  have h1' : us.length = 3 := by
    have : us.length + 3 = 6 := h1
    omega
  match us, h1', ws, h2 with
  | [a, b, c], _, [n, q, t], _ => cases rest <;> rfl
theorem bO (qual : Str) (dV kV doc pm cdv ct : Value) (an : Option Addr) (hD : dV = .none) (C : Value) (us ws : List Value) (h1 : us.length = 3) (h2 : ws.length = 3) : bindArgs (PySem.W.fnOf "of" qual (defArgs sO) (defBody sO) (defScope sO) dV kV doc pm an cdv ct) ⟨C :: us, ksL.zip ws⟩ =
   pure (psO.zip (C :: (us ++ ws))) := by
  subst hD
  match us, h1, ws, h2 with
  | [a, b, c], _, [n, q, t], _ => rfl
/-- what the text says of the class -/
structure LbT (K : PySem.W.Frag) : Prop where
  k : LbK K (He.ga K "Library")
  mkr : L2.Mk K (He.ga K "Library") (He.ma K (He.ga K "Library") "__init__")
  ini : ∃ fd, FunD K "__init__" "Library.__init__" (defArgs sI) (defBody sI) (defScope sI) [] [("number", .non), ("quote", .non), ("truth", .non)] (He.ma K (He.ga K "Library") "__init__") fd
  cm : ∃ (mc : Value) (p g : Addr) (fd : FuncData), ClX.CRead K (He.ga K "Library") mc ∧ ClX.CMet K (He.ga K "Library") mc "of" p g ∧ FunD K "of" "Library.of" (defArgs sO) (defBody sO) (defScope sO) [] [("number", .non), ("quote", .non), ("truth", .non)] g fd
  pr : ∃ (p g : Addr) (fd : FuncData), L2.PropOf K (He.ga K "Library") "entries" p g ∧ FunD K "entries" "Library.entries" (defArgs sE) (defBody sE) (defScope sE) [] [] g fd
def N_ent : List Str := ["self"]
theorem sc_ent : FnScope N_ent ["self"] (defScope sE) := ⟨rfl, rfl, rfl, by decide +kernel, rfl, by decide +kernel, by decide +kernel⟩
theorem sc_init : FnScope N_Library___init__ (psI ++ [("entries" : Str)]) (defScope sI) := ⟨rfl, rfl, rfl, nd_Library___init__, rfl, by decide +kernel, by decide +kernel⟩
theorem sc_of : FnScope N_Library_of psO (defScope sO) := ⟨rfl, rfl, rfl, nd_Library_of, rfl, by decide +kernel, by decide +kernel⟩
theorem init_walk {G : Gx} {mg : Str → Option Value} {base : Heap} (T : Txt G.K mg) (h_check_names : Dfn G.P G.w G.K mg base "check_names" ["bases", "constructors"] 3 (sp_check_names G)) (h_is_entry_of : Dfn G.P G.w G.K mg base "is_entry_of" ["thing", "bases", "constructors"] 5 (sp_is_entry_of G)) (h_check_role : Dfn G.P G.w G.K mg base "check_role" ["word", "bases", "thing"] 1 (sp_check_role G)) (h_check_clashes : Dfn G.P G.w G.K mg base "check_clashes" ["entries"] 7 (sp_check_clashes G)) (h_by_names : Dfn G.P G.w G.K mg base "by_names" ["entries"] 1 (sp_by_names G))
    {cdv : Value} {A : Around} {outer : List Env} {s : Shared} {H : Hp} {f : Addr} {E : XK} (hr : Room 7 (A.deeper (envOfC "Library.__init__" (defScope sI) s.heap.objs.size f cdv))) :
    PSs (cxOf CX0 G.P G.w G.K mg base N_Library___init__ "Library.__init__" (defScope sI) f cdv A outer s H E).nox (defBody sI) (t_Library___init__ G) := by
  exact (pss_cons (ps_expr (pe_callD h_check_names (hr.mono (by decide)) (pa_cons (pv 1) (pa_cons (pv 2) pa_nil))))
      (pss_cons (ps_for PassesOwn.never rfl (pi_seq (pv 6)) (pg_name (i := 7) nd_Library___init__ rfl (Or.inl rfl)) (pss_one (ps_if (pt_not (pt_val (pe_callD h_is_entry_of (hr.mono (by decide)) (pa_cons (pv 7) (pa_cons (pv 1) (pa_cons (pv 2) pa_nil)))))) (pss_one ps_never) pss_nil)))
      (pss_cons (ps_expr (pe_callD h_check_role (hr.mono (by decide)) (pa_cons pe_str (pa_cons (pv 1) (pa_cons (pv 3) pa_nil)))))
      (pss_cons (ps_expr (pe_callD h_check_role (hr.mono (by decide)) (pa_cons pe_str (pa_cons (pv 1) (pa_cons (pv 4) pa_nil)))))
      (pss_cons (ps_expr (pe_callD h_check_role (hr.mono (by decide)) (pa_cons pe_str (pa_cons (pv 1) (pa_cons (pv 5) pa_nil)))))
      (pss_cons (ps_expr (pe_callD h_check_clashes (hr.mono (by decide)) (pa_cons (pv 6) pa_nil)))
      (pss_cons (ps_fld (pv 0) (pv 1) rfl)
      (pss_cons (ps_fld (pv 0) (pv 2) rfl)
      (pss_cons (ps_fld (pv 0) (pv 3) rfl)
      (pss_cons (ps_fld (pv 0) (pv 4) rfl)
      (pss_cons (ps_fld (pv 0) (pv 5) rfl)
      (pss_cons (ps_fld (pv 0) (pe_callTy call_tuple_of (by rfl) T.free_tuple (by decide +kernel) (pa_cons (pe_callB (cr_sortedD hr.units) (by rfl) T.free_sorted (by decide +kernel) (pa_cons (pv 6) pa_nil)) pa_nil)) rfl)
      (pss_one (ps_fld (pv 0) (pe_callD h_by_names (hr.mono (by decide)) (pa_cons (pe_fld (pv 0) rfl) pa_nil)) rfl))))))))))))))
/-- what a caller needs of Library.of -/
def OfOk (G : Gx) (mg : Str → Option Value) (base : Heap) : Prop :=
    ∃ (mc : Value) (p g : Addr) (fd : FuncData), ClX.CRead G.K (lbC G) mc ∧ ClX.CMet G.K (lbC G) mc "of" p g ∧ FnOk G.P G.w G.K mg base CX0 10 g fd psO (sp_of G) ∧
      ∀ (s : Shared) (us ws : List Value), G.K.In s.heap → us.length = 3 → ws.length = ksL.length → BindsTo s fd ⟨.ref (lbC G) :: us, ksL.zip ws⟩ (psO.zip (.ref (lbC G) :: (us ++ ws)))
theorem ok_of {G : Gx} {mg : Str → Option Value} {base : Heap} (T : Txt G.K mg) (X : LbT G.K) (h_check_names : Dfn G.P G.w G.K mg base "check_names" ["bases", "constructors"] 3 (sp_check_names G)) (h_is_entry_of : Dfn G.P G.w G.K mg base "is_entry_of" ["thing", "bases", "constructors"] 5 (sp_is_entry_of G)) (h_check_role : Dfn G.P G.w G.K mg base "check_role" ["word", "bases", "thing"] 1 (sp_check_role G)) (h_check_clashes : Dfn G.P G.w G.K mg base "check_clashes" ["entries"] 7 (sp_check_clashes G)) (h_by_names : Dfn G.P G.w G.K mg base "by_names" ["entries"] 1 (sp_by_names G)) :
    OfOk G mg base := by
  obtain ⟨mc, p, g, fd, cr, cm, F⟩ := X.cm
  obtain ⟨fdI, FI⟩ := X.ini
  obtain ⟨oc, od, dV, kV, doc, pm, an, cdv, ct, osl, rfl, lk, hcd, hD, _⟩ := FI.ex
  have hD : dV = .none := by
    rcases hD with ⟨_, e⟩ | ⟨e, _⟩
    · exact e
    · exact absurd rfl e
  refine ⟨mc, p, g, fd, cr, cm, F.ok sc_of spD_len (fun cdv A outer s H vs Q E hr h => ⟨t_Library_of G, PSs.nox ?_, body_of (N := N_Library_of) (n := 7) (by decide) (fun B H ds Q0 hl hf => law_of ds Q0 hl hf) h⟩), ?_⟩
  · exact (pss_cons (ps_expr (pe_callD h_check_names (hr.mono (by decide)) (pa_cons (pv 1) (pa_cons (pv 2) pa_nil))))
      (pss_cons (ps_if (pt_not (pt_val (pe_callB call_isi (by rfl) T.free_isinstance (by decide +kernel) (pa_cons (pv 3) (pa_cons (pe_bltn (by rfl) T.free_tuple (by decide +kernel) rfl) pa_nil))))) (pss_one ps_never) pss_nil)
      (pss_one (ps_ret (pe_makeSK (n := 2) (ks := ksL) (N := N_Library___init__) (ps := psI) (sp := sp_init G) X.mkr lk hcd sc_init (fun us rest ws h1 h2 => bI _ _ _ _ _ _ _ _ hD us rest ws h1 h2) (fun A outer s H vs Q hr h => ⟨t_Library___init__ G, PSs.nox (init_walk T h_check_names h_is_entry_of h_check_role h_check_clashes h_by_names hr), init_end X.k h⟩) rfl (hr.mono (by decide)) (pv 0) (pa_cons (pv 1) (pa_cons (pv 2) (StX.pa_star (pv 3) pa_nil))) (pk_cons (pv 4) (pk_cons (pv 5) (pk_cons (pv 6) pk_nil))))))))
  · obtain ⟨oc, od, dV, kV, doc, pm, an, cdv, ct, osl, rfl, lk, hcd, hD, _⟩ := F.ex
    have hD : dV = .none := by
      rcases hD with ⟨_, e⟩ | ⟨e, _⟩
      · exact e
      · exact absurd rfl e
    exact fun s us ws _ h1 h2 => .of_eq (bO _ _ _ _ _ _ _ _ hD _ us ws h1 h2)
theorem ok_ent {P : Program} {w : World} {K : PySem.W.Frag} {mg : Str → Option Value} {base : Heap} (X : LbT K) :
    ∃ (p g : Addr) (fd : FuncData), L2.PropOf K (He.ga K "Library") "entries" p g ∧ FnOk P w K mg base CX0 1 g fd ["self"] (getSp (He.ga K "Library") "sorted_entries") ∧ Binds K fd ["self"] [] := by
  obtain ⟨p, g, fd, pr, F⟩ := X.pr
  have hb := F.bindsN (ps := ["self"]) (fun _ _ _ _ _ _ us hl => match us, hl with | [_], _ => rfl)
  obtain ⟨oc, od, dV, kV, doc, pm, an, cdv, ct, osl, rfl, lk, hcd, hD, _⟩ := F.ex
  exact ⟨p, g, _, pr, fn_getter lk hcd sc_ent rfl (by rfl) X.k.cls (X.k.no _ (by simp)), hb⟩
end

section
set_option Elab.async false
set_option autoImplicit false
set_option linter.all false
set_option maxRecDepth 100000
set_option maxHeartbeats 4000000
open PySem PySem.Spec PyProof.Rows L2
abbrev sQ : Stmt := inClass (top 63) 5
def kwN : List (Str × He.Dv) := [("number", .non), ("quote", .non), ("truth", .non)]
def D_init : He.DefD := ⟨("Library", some "__init__"), "__init__", "Library.__init__", defArgs sI, defBody sI, defScope sI, [], kwN⟩
def D_eq : He.DefD := ⟨("Library", some "__eq__"), "__eq__", "Library.__eq__", defArgs sQ, defBody sQ, defScope sQ, [], []⟩
def D_of : He.DefD := ⟨("Library", some "of"), "of", "Library.of", defArgs sO, defBody sO, defScope sO, [], kwN⟩
def D_entries : He.DefD := ⟨("Library", some "entries"), "entries", "Library.entries", defArgs sE, defBody sE, defScope sE, [], []⟩
def faX : List He.Fa := [.glo "Library", .cls "Library", .noat "Library" "bases", .noat "Library" "constructors", .noat "Library" "number", .noat "Library" "quote", .noat "Library" "truth", .noat "Library" "sorted_entries", .noat "Library" "by_name", .mkr "Library"]
def fnX : List He.DefD := [D_init, D_eq]
def aLib (K : PySem.W.Frag) : Addr := He.ga K "Library"
def aOf (K : PySem.W.Frag) : Addr := recHd K (He.ma K (aLib K) "of") "classmethod"
def aEn (K : PySem.W.Frag) : Addr := recHd K (He.ma K (aLib K) "entries") "property"
def xsX : List XD := [(aOf, D_of), (aEn, D_entries)]
def tfX : List He.Defn := [("_law_live", none)]
def exX (K : PySem.W.Frag) : Bool := more K && (cmB K (aLib K) "of" && (prB K (aLib K) "entries" && (isB K (aLib K) && (He.eqO (PySem.W.findIn K (.ref (aLib K)) "__eq__") (some (some (.ref (He.ma K (aLib K) "__eq__")))) && PySem.W.isFn K (.ref (He.ma K (aLib K) "__eq__"))))))
abbrev R : PySem.W.OpenRow := PySem.W.OpenLaw.row PySem.Challenge.rw_sparewright_k95_live_records_and_librari
abbrev hk : PySem.W.Hook := hookZ (asZ "Library") (fa ++ faX) (fn ++ fnX) xsX tfX exX
def ob (s : PySem.W.SharedT) : AlZ := obsZ (asZ "Library") (fa ++ faX) (fn ++ fnX) xsX tfX exX (HandSHeadRun.getT s)
theorem ob_eq (s : PySem.W.SharedT) : ob s = hk.obs s.abs := obsZ_eq (HandSHeadRun.getT_eq s)
def names0 : List PySem.Str := ["_wall", "GapError", "BadLibrary", "Clash", "InvalidText", "BadRecord", "BadDay", "TAIL", "put", "is_unknown", "resolved", "differing", "unified", "unified_all", "LETTERS", "LONGEST_NAME", "HOLE", "LEFT", "RIGHT", "is_name", "is_pattern", "has_hole", "filled", "tail_of", "fitted", "written", "pattern_in", "WORDS", "OPERATORS", "is_name_token"]
def names1 : List PySem.Str := ["FUNCTION", "METHOD", "OPERATOR", "SORTS", "MOST_PARAMETERS", "has_parts_of", "is_entry_name", "fits_number", "is_entry", "is_entry_of", "do_clash", "clash_with", "ROLES", "show_entry", "show_library", "entry_in", "are_ascending_names", "LibraryReader", "library_parts", "read_library", "are_names", "check_names", "check_role", "check_clashes", "by_names", "roles_of", "Library", "is_entry_for", "ADD", "DROP"]
def names2 : List PySem.Str := ["UNDO", "HAND", "N", "DAY", "DEED", "is_from_nought", "is_deed", "is_record", "name_of", "rank_of", "are_records", "by_rank", "live_in", "entries_behind", "library_of_day", "need_records", "need_day", "live", "library_on", "_law_deck", "_law_draw", "_law_pick", "_law_some", "_law_do_meet", "_law_do_clash", "_law_live", "_law_entries_on", "_law_names", "_law_pattern", "_law_entry"]
def names3 : List PySem.Str := ["_law_parts", "_law_library", "_law_drawn_deed", "_law_drawn_records", "_law_like", "_law_is_told"]
def names : List PySem.Str := names0 ++ names1 ++ names2 ++ names3
end

section
set_option Elab.async false
set_option autoImplicit false
set_option linter.all false
set_option maxRecDepth 100000
set_option maxHeartbeats 4000000
open PySem PySem.Spec PyProof.Rows L2
set_option maxHeartbeats 0 in
theorem run (w : World) : HandSHeadRun.RunEq R (PySem.W.view R.prog [107]) hk ob 6000 names w := by
  intro os
  kernel_rfl
end

section
set_option Elab.async false
set_option autoImplicit false
set_option linter.all false
set_option maxRecDepth 100000
set_option maxHeartbeats 4000000
open PySem PySem.Spec PyProof.Rows L2
theorem sc_library_of_day : FnScope N_library_of_day ["base", "records", "day"] (defScope s_library_of_day) := ⟨rfl, rfl, rfl, nd_library_of_day, rfl, by decide +kernel, by decide +kernel⟩
theorem ok_library_of_day {G : Gx} {mg : Str → Option Value} {base : Heap} (T : Txt G.K mg) (X : LbT G.K) (hg : Cst mg "Library" (.ref (lbC G))) (ho : OfOk G mg base) (h_entries_behind : Dfn G.P G.w G.K mg base "entries_behind" ["entries", "deed"] 7 (sp_entries_behind G)) (h_live_in : Dfn G.P G.w G.K mg base "live_in" ["records", "day"] 7 (sp_live_in G)) (h_roles_of : Dfn G.P G.w G.K mg base "roles_of" ["library"] 1 (sp_roles_of G))
    (law : ∀ (B : Addr → Prop) (H : Hp) (ds : List D) (Q0 : D → Prop), ds.length = 3 → (F_library_of_day (lbC G)) ds Q0 → WS ⟨G, B, H⟩ (t_library_of_day G) (ent 8 ds) { nx := fun _ => Q0 .non, rt := Q0 }) : Dfn G.P G.w G.K mg base "library_of_day" ["base", "records", "day"] 12 (sp_library_of_day G) := by
  obtain ⟨mcC, pC, gC, fdC, cr, cm, Fo, hbO⟩ := ho
  obtain ⟨pP, gP, fdP, hpP, FP, hbP⟩ := ok_ent (P := G.P) (w := G.w) (mg := mg) (base := base) X
  obtain ⟨fd, F, hm⟩ := T.d_library_of_day
  refine ⟨_, fd, hm, F.kp, F.bindsN (fun _ _ _ _ _ _ us hl => match us, hl with | [_, _, _], _ => rfl), F.ok sc_library_of_day spD_len (fun cdv A outer s H vs Q E hr h => ⟨t_library_of_day G, PSs.nox ?_, body_of (N := N_library_of_day) (n := 3) (by decide) law h⟩)⟩
  exact (pss_cons (ps_set (i := 3) nd_library_of_day rfl (Or.inl rfl) (pe_callTy call_list_of (by rfl) T.free_list (by decide +kernel) (pa_cons (pe_prop (pv 0) X.k.cls hpP FP (hr.mono (by decide)) hbP .nil pass0 rfl) pa_nil)))
      (pss_cons (ps_for PassesOwn.never rfl (pi_seq (pe_callD h_live_in (hr.mono (by decide)) (pa_cons (pv 1) (pa_cons (pv 2) pa_nil)))) (pg_name (i := 4) nd_library_of_day rfl (Or.inl rfl)) (pss_one (ps_if (pt_cmpR (op_neD hr.units) (pe_ix ix_seq (pe_ix ix_seq (pv 4) (pe_cst T.c_DEED) (fun _ _ => rfl)) pe_int (fun _ _ => rfl)) (pe_cst T.c_UNDO) (nomark _)) (pss_one (ps_set (i := 3) nd_library_of_day rfl (Or.inl rfl) (pe_callD h_entries_behind (hr.mono (by decide)) (pa_cons (pv 3) (pa_cons (pe_ix ix_seq (pv 4) (pe_cst T.c_DEED) (fun _ _ => rfl)) pa_nil))))) pss_nil)))
      (pss_cons (ps_asg (pe_callD h_roles_of (hr.mono (by decide)) (pa_cons (pv 0) pa_nil)) (pg_tup rfl (pgs_cons (pg_name (i := 5) nd_library_of_day rfl (Or.inl rfl)) (pgs_cons (pg_name (i := 6) nd_library_of_day rfl (Or.inl rfl)) (pgs_cons (pg_name (i := 7) nd_library_of_day rfl (Or.inl rfl)) pgs_nil)))))
      (pss_one (ps_ret (pe_cmethK (n := 3) (ks := ksL) (pe_cst hg) cr cm Fo hbO (hr.mono (by decide)) (pa_cons (pe_fld (pv 0) rfl) (pa_cons (pe_fld (pv 0) rfl) (pa_cons (pe_callTy call_tuple_of (by rfl) T.free_tuple (by decide +kernel) (pa_cons (pv 3) pa_nil)) pa_nil))) (pk_cons (pv 5) (pk_cons (pv 6) (pk_cons (pv 7) pk_nil)))))))))

theorem sc_live : FnScope N_live ["base", "records", "day"] (defScope s_live) := ⟨rfl, rfl, rfl, nd_live, rfl, by decide +kernel, by decide +kernel⟩
theorem ok_live {G : Gx} {mg : Str → Option Value} {base : Heap} (T : Txt G.K mg) (h_live_in : Dfn G.P G.w G.K mg base "live_in" ["records", "day"] 7 (sp_live_in G)) (h_need_day : Dfn G.P G.w G.K mg base "need_day" ["day"] 2 (sp_need_day G)) (h_need_records : Dfn G.P G.w G.K mg base "need_records" ["base", "records"] 10 (sp_need_records G))
    (law : ∀ (B : Addr → Prop) (H : Hp) (ds : List D) (Q0 : D → Prop), ds.length = 3 → (F_live (lbC G)) ds Q0 → WS ⟨G, B, H⟩ (t_live G) (ent 3 ds) { nx := fun _ => Q0 .non, rt := Q0 }) : Dfn G.P G.w G.K mg base "live" ["base", "records", "day"] 11 (sp_live G) := by
  obtain ⟨fd, F, hm⟩ := T.d_live
  refine ⟨_, fd, hm, F.kp, F.bindsN (fun _ _ _ _ _ _ us hl => match us, hl with | [_, _, _], _ => rfl), F.ok sc_live spD_len (fun cdv A outer s H vs Q E hr h => ⟨t_live G, PSs.nox ?_, body_of (N := N_live) (n := 3) (by decide) law h⟩)⟩
  exact (pss_cons (ps_expr (pe_callD h_need_records (hr.mono (by decide)) (pa_cons (pv 0) (pa_cons (pv 1) pa_nil))))
      (pss_cons (ps_expr (pe_callD h_need_day (hr.mono (by decide)) (pa_cons (pv 2) pa_nil)))
      (pss_one (ps_ret (pe_callTy call_tuple_of (by rfl) T.free_tuple (by decide +kernel) (pa_cons (pe_callD h_live_in (hr.mono (by decide)) (pa_cons (pv 1) (pa_cons (pv 2) pa_nil))) pa_nil))))))

theorem sc_library_on : FnScope N_library_on ["base", "records", "day"] (defScope s_library_on) := ⟨rfl, rfl, rfl, nd_library_on, rfl, by decide +kernel, by decide +kernel⟩
theorem ok_library_on {G : Gx} {mg : Str → Option Value} {base : Heap} (T : Txt G.K mg) (h_library_of_day : Dfn G.P G.w G.K mg base "library_of_day" ["base", "records", "day"] 12 (sp_library_of_day G)) (h_need_day : Dfn G.P G.w G.K mg base "need_day" ["day"] 2 (sp_need_day G)) (h_need_records : Dfn G.P G.w G.K mg base "need_records" ["base", "records"] 10 (sp_need_records G))
    (law : ∀ (B : Addr → Prop) (H : Hp) (ds : List D) (Q0 : D → Prop), ds.length = 3 → (F_library_on (lbC G)) ds Q0 → WS ⟨G, B, H⟩ (t_library_on G) (ent 3 ds) { nx := fun _ => Q0 .non, rt := Q0 }) : Dfn G.P G.w G.K mg base "library_on" ["base", "records", "day"] 13 (sp_library_on G) := by
  obtain ⟨fd, F, hm⟩ := T.d_library_on
  refine ⟨_, fd, hm, F.kp, F.bindsN (fun _ _ _ _ _ _ us hl => match us, hl with | [_, _, _], _ => rfl), F.ok sc_library_on spD_len (fun cdv A outer s H vs Q E hr h => ⟨t_library_on G, PSs.nox ?_, body_of (N := N_library_on) (n := 3) (by decide) law h⟩)⟩
  exact (pss_cons (ps_expr (pe_callD h_need_records (hr.mono (by decide)) (pa_cons (pv 0) (pa_cons (pv 1) pa_nil))))
      (pss_cons (ps_expr (pe_callD h_need_day (hr.mono (by decide)) (pa_cons (pv 2) pa_nil)))
      (pss_one (ps_ret (pe_callD h_library_of_day (hr.mono (by decide)) (pa_cons (pv 0) (pa_cons (pv 1) (pa_cons (pv 2) pa_nil))))))))
end

section
set_option Elab.async false
set_option autoImplicit false
set_option linter.all false
set_option maxRecDepth 100000
set_option maxHeartbeats 4000000
open PySem PySem.Spec PyProof.Rows L2
theorem sc__law_library : FnScope N__law_library ["parts", "entries"] (defScope s__law_library) := ⟨rfl, rfl, rfl, nd__law_library, rfl, by decide +kernel, by decide +kernel⟩
theorem ok__law_library {G : Gx} {mg : Str → Option Value} {base : Heap} (T : Txt G.K mg) (X : LbT G.K) (hg : Cst mg "Library" (.ref (lbC G))) (ho : OfOk G mg base) 
    (law : ∀ (B : Addr → Prop) (H : Hp) (ds : List D) (Q0 : D → Prop), ds.length = 2 → (F__law_library (lbC G)) ds Q0 → WS ⟨G, B, H⟩ (t__law_library G) (ent 5 ds) { nx := fun _ => Q0 .non, rt := Q0 }) : Dfn G.P G.w G.K mg base "_law_library" ["parts", "entries"] 12 (sp__law_library G) := by
  obtain ⟨mcC, pC, gC, fdC, cr, cm, Fo, hbO⟩ := ho
  obtain ⟨pP, gP, fdP, hpP, FP, hbP⟩ := ok_ent (P := G.P) (w := G.w) (mg := mg) (base := base) X
  obtain ⟨fd, F, hm⟩ := T.d__law_library
  refine ⟨_, fd, hm, F.kp, F.bindsN (fun _ _ _ _ _ _ us hl => match us, hl with | [_, _], _ => rfl), F.ok sc__law_library spD_len (fun cdv A outer s H vs Q E hr h => ⟨t__law_library G, PSs.nox ?_, body_of (N := N__law_library) (n := 2) (by decide) law h⟩)⟩
  exact (pss_cons (ps_asg (pe_dget (hu_of hr) (pv 0) pe_str (fun _ _ => rfl)) (pg_lst rfl (pgs_cons (pg_name (i := 2) nd__law_library rfl (Or.inl rfl)) (pgs_cons (pg_name (i := 3) nd__law_library rfl (Or.inl rfl)) (pgs_cons (pg_name (i := 4) nd__law_library rfl (Or.inl rfl)) pgs_nil)))))
      (pss_one (ps_ret (pe_cmethK (n := 3) (ks := ksL) (pe_cst hg) cr cm Fo hbO (hr.mono (by decide)) (pa_cons (pe_dget (hu_of hr) (pv 0) pe_str (fun _ _ => rfl)) (pa_cons (pe_dget (hu_of hr) (pv 0) pe_str (fun _ _ => rfl)) (pa_cons (pv 1) pa_nil))) (pk_cons (pv 2) (pk_cons (pv 3) (pk_cons (pv 4) pk_nil)))))))
end

section
set_option Elab.async false
set_option autoImplicit false
set_option linter.all false
set_option maxRecDepth 100000
set_option maxHeartbeats 4000000
open PySem PySem.Spec PyProof.Rows L2
/-- what the text says of == of libraries -/
structure LbQ (K : PySem.W.Frag) : Prop where
  fd : ∃ fd, FunD K "__eq__" "Library.__eq__" (defArgs sQ) (defBody sQ) (defScope sQ) [] [] (He.ma K (He.ga K "Library") "__eq__") fd
  find : PySem.W.findIn K (.ref (He.ga K "Library")) "__eq__" = some (some (.ref (He.ma K (He.ga K "Library") "__eq__")))
  isf : PySem.W.isFn K (.ref (He.ma K (He.ga K "Library") "__eq__")) = true
  is : ∀ {H : Hp} {a dx : Addr} {fs : List (Str × V)}, H a = some (.ins (He.ga K "Library") dx fs) → TyX K H (.ref a) (.ref (He.ga K "Library"))
  kit : PySem.W.kitOne K (.ref (He.ga K "Library")) (.ref (He.ga K "Library")) = some true
/-- what a caller needs of it -/
def EqOk (G : Gx) (mg : Str → Option Value) (base : Heap) : Prop := ∃ fd, Binds G.K fd ["self", "other"] [] ∧ FnOk G.P G.w G.K mg base CX0 2 (He.ma G.K (lbC G) "__eq__") fd ["self", "other"] (sp_leq G)
theorem sc_leq : FnScope N_Library___eq__ ["self", "other"] (defScope sQ) := ⟨rfl, rfl, rfl, nd_Library___eq__, rfl, by decide +kernel, by decide +kernel⟩
theorem ok_leq {G : Gx} {mg : Str → Option Value} {base : Heap} (T : Txt G.K mg) (Y : LbQ G.K) (hg : Cst mg "Library" (.ref (lbC G))) (h_roles_of : Dfn G.P G.w G.K mg base "roles_of" ["library"] 1 (sp_roles_of G))
    (law : ∀ (B : Addr → Prop) (H : Hp) (ds : List D) (Q0 : D → Prop), ds.length = 2 → F_leq (lbC G) ds Q0 → WS ⟨G, B, H⟩ (t_Library___eq__ G) (ent 2 ds) { nx := fun _ => Q0 .non, rt := Q0 }) : EqOk G mg base := by
  obtain ⟨fd, F⟩ := Y.fd
  refine ⟨fd, F.bindsN (fun _ _ _ _ _ _ us hl => match us, hl with | [_, _], _ => rfl), F.ok sc_leq spD_len (fun cdv A outer s H vs Q E hr h => ⟨t_Library___eq__ G, PSs.nox ?_, body_of (N := N_Library___eq__) (n := 2) (by decide) law h⟩)⟩
  exact (pss_cons (ps_if (pt_not (pt_val (pe_callB call_isi (by rfl) T.free_isinstance (by decide +kernel) (pa_cons (pv 1) (pa_cons (pe_cst hg) pa_nil))))) (pss_one (ps_ret pe_bl)) pss_nil)
      (pss_cons (ps_if (PW.pt (pw_or (pt_cmpR (op_neD hr.units) (pe_fld (pv 0) rfl) (pe_fld (pv 1) rfl) (nomark _)) (pw_or1 (pt_cmpR (op_neD hr.units) (pe_fld (pv 0) rfl) (pe_fld (pv 1) rfl) (nomark _))))) (pss_one (ps_ret pe_bl)) pss_nil)
      (pss_one (ps_ret (pe_and (pe_cmpR (op_eqD hr.units) (pe_callD h_roles_of (hr.mono (by decide)) (pa_cons (pv 0) pa_nil)) (pe_callD h_roles_of (hr.mono (by decide)) (pa_cons (pv 1) pa_nil)) (nomark _)) (pe_one (pe_cmpR (op_eqD hr.units) (pe_fld (pv 0) rfl) (pe_fld (pv 1) rfl) (nomark _))))))))
end

section
set_option Elab.async false
set_option autoImplicit false
set_option linter.all false
set_option maxRecDepth 100000
set_option maxHeartbeats 4000000
open PySem PySem.Spec PyProof.Rows L2
theorem bR_live (qual : Str) (dV kV doc pm cdv ct : Value) (an : Option Addr) (hD : dV = .none) (ws : List Value) (h : ws.length = 3) : bindArgs (PySem.W.fnOf "live" qual (defArgs s_live) (defBody s_live) (defScope s_live) dV kV doc pm an cdv ct) ⟨[], (["day", "records", "base"] : List Str).zip ws⟩ =
   pure ((["base", "records", "day"] : List Str).zip ws.reverse) := by
  subst hD
  match ws, h with
  | [a, b, c], _ => rfl
theorem okR_live {G : Gx} {mg : Str → Option Value} {base : Heap} (T : Txt G.K mg) (h_live_in : Dfn G.P G.w G.K mg base "live_in" ["records", "day"] 7 (sp_live_in G)) (h_need_day : Dfn G.P G.w G.K mg base "need_day" ["day"] 2 (sp_need_day G)) (h_need_records : Dfn G.P G.w G.K mg base "need_records" ["base", "records"] 10 (sp_need_records G))
    (law : ∀ (B : Addr → Prop) (H : Hp) (ds : List D) (Q0 : D → Prop), ds.length = 3 → (F_live (lbC G)) ds Q0 → WS ⟨G, B, H⟩ (t_live G) (ent 3 ds) { nx := fun _ => Q0 .non, rt := Q0 }) : DfnR G.P G.w G.K mg base "live" ["base", "records", "day"] ["day", "records", "base"] 11 (sp_live G) := by
  obtain ⟨fd, F, hm⟩ := T.d_live
  refine ⟨_, fd, hm, F.kp, ?_, F.ok sc_live spD_len (fun cdv A outer s H vs Q E hr h => ⟨t_live G, PSs.nox ?_, body_of (N := N_live) (n := 3) (by decide) law h⟩)⟩
  rotate_left
  · exact (pss_cons (ps_expr (pe_callD h_need_records (hr.mono (by decide)) (pa_cons (pv 0) (pa_cons (pv 1) pa_nil))))
      (pss_cons (ps_expr (pe_callD h_need_day (hr.mono (by decide)) (pa_cons (pv 2) pa_nil)))
      (pss_one (ps_ret (pe_callTy call_tuple_of (by rfl) T.free_tuple (by decide +kernel) (pa_cons (pe_callD h_live_in (hr.mono (by decide)) (pa_cons (pv 1) (pa_cons (pv 2) pa_nil))) pa_nil))))))
  · obtain ⟨oc, od, dV, kV, doc, pm, an, cdv, ct, osl, rfl, lk, hcd, hD, _⟩ := F.ex
    have hD : dV = .none := by
      rcases hD with ⟨_, e⟩ | ⟨e, _⟩
      · exact e
      · exact absurd rfl e
    exact fun s ws hl => .of_eq (bR_live _ _ _ _ _ _ _ _ hD ws hl)

theorem bR_library_on (qual : Str) (dV kV doc pm cdv ct : Value) (an : Option Addr) (hD : dV = .none) (ws : List Value) (h : ws.length = 3) : bindArgs (PySem.W.fnOf "library_on" qual (defArgs s_library_on) (defBody s_library_on) (defScope s_library_on) dV kV doc pm an cdv ct) ⟨[], (["day", "records", "base"] : List Str).zip ws⟩ =
   pure ((["base", "records", "day"] : List Str).zip ws.reverse) := by
  subst hD
  match ws, h with
  | [a, b, c], _ => rfl
theorem okR_library_on {G : Gx} {mg : Str → Option Value} {base : Heap} (T : Txt G.K mg) (h_library_of_day : Dfn G.P G.w G.K mg base "library_of_day" ["base", "records", "day"] 12 (sp_library_of_day G)) (h_need_day : Dfn G.P G.w G.K mg base "need_day" ["day"] 2 (sp_need_day G)) (h_need_records : Dfn G.P G.w G.K mg base "need_records" ["base", "records"] 10 (sp_need_records G))
    (law : ∀ (B : Addr → Prop) (H : Hp) (ds : List D) (Q0 : D → Prop), ds.length = 3 → (F_library_on (lbC G)) ds Q0 → WS ⟨G, B, H⟩ (t_library_on G) (ent 3 ds) { nx := fun _ => Q0 .non, rt := Q0 }) : DfnR G.P G.w G.K mg base "library_on" ["base", "records", "day"] ["day", "records", "base"] 13 (sp_library_on G) := by
  obtain ⟨fd, F, hm⟩ := T.d_library_on
  refine ⟨_, fd, hm, F.kp, ?_, F.ok sc_library_on spD_len (fun cdv A outer s H vs Q E hr h => ⟨t_library_on G, PSs.nox ?_, body_of (N := N_library_on) (n := 3) (by decide) law h⟩)⟩
  rotate_left
  · exact (pss_cons (ps_expr (pe_callD h_need_records (hr.mono (by decide)) (pa_cons (pv 0) (pa_cons (pv 1) pa_nil))))
      (pss_cons (ps_expr (pe_callD h_need_day (hr.mono (by decide)) (pa_cons (pv 2) pa_nil)))
      (pss_one (ps_ret (pe_callD h_library_of_day (hr.mono (by decide)) (pa_cons (pv 0) (pa_cons (pv 1) (pa_cons (pv 2) pa_nil))))))))
  · obtain ⟨oc, od, dV, kV, doc, pm, an, cdv, ct, osl, rfl, lk, hcd, hD, _⟩ := F.ex
    have hD : dV = .none := by
      rcases hD with ⟨_, e⟩ | ⟨e, _⟩
      · exact e
      · exact absurd rfl e
    exact fun s ws hl => .of_eq (bR_library_on _ _ _ _ _ _ _ _ hD ws hl)
end

section
set_option Elab.async false
set_option autoImplicit false
set_option linter.all false
set_option maxRecDepth 100000
set_option maxHeartbeats 4000000
open PySem PySem.Spec PyProof.Rows L2
section
variable {G : Gx} {B : Addr → Prop} {H : Hp}
theorem atI_in {α : Type} {xs : List α} {r : Int} (h0 : 0 ≤ r) (h1 : r < xs.length) : ∃ x ∈ xs, atI xs r = some x := by
  obtain ⟨n, rfl⟩ : ∃ n : Nat, r = n := ⟨r.toNat, by omega⟩
  have hn : n < xs.length := by omega
  exact ⟨xs[n], List.getElem_mem hn, atI_n (List.getElem?_eq_getElem hn)⟩
theorem law_pick (ds : List D) (Q : D → Prop) (hl : ds.length = 2) (h : F__law_pick ds Q) : WS ⟨G, B, H⟩ (t__law_pick G) (ent 2 ds) { nx := fun _ => Q .non, rt := Q } := by
  obtain ⟨d, xs, rfl, hd, hne, hz, q⟩ := h
  have hp : 0 < xs.length := List.length_pos_iff.mpr hne
  unfold t__law_pick
  cases d with
  | lst ys =>
    cases hd
    walk_at "ws"
    refine rc_lenL ?_
    walk_at "ws"
    refine ⟨rfl, _, rfl, by omega, by omega, fun r r0 r1 => ?_⟩
    obtain ⟨x, hx, e⟩ := atI_in r0 r1
    exact rd_ixL e (q x hx)
  | tup ys =>
    cases hd
    walk_at "ws"
    refine rc_lenT ?_
    walk_at "ws"
    refine ⟨rfl, _, rfl, by omega, by omega, fun r r0 r1 => ?_⟩
    obtain ⟨x, hx, e⟩ := atI_in r0 r1
    exact rd_ixT e (q x hx)
  | _ => cases hd
theorem law_pattern (ds : List D) (Q : D → Prop) (hl : ds.length = 4) (h : F__law_pattern ds Q) : WS ⟨G, B, H⟩ (t__law_pattern G) (ent 6 ds) { nx := fun _ => Q .non, rt := Q } := by
  obtain ⟨cons, lasts, most, rfl, hm, hln, hc, hll, ho, q⟩ := h
  unfold t__law_pattern
  have rest : ∀ n : Nat, n ≤ most → (n = 0 ∨ cons ≠ []) → WS ⟨G, B, H⟩ (tRet (tOp (rAddU G.K) (tCB (rTupU G.K) (tCons (tLc (iRng1 (tCons (tVar 4) tNil)) (gName 5) tYes (tCall (sp__law_pick G) [] E0 (tCons (tVar 0) (tCons (tVar 1) tNil))) [5]) tNil)) (tTup (tCons (tCall (sp__law_pick G) [] E0 (tCons (tVar 0) (tCons (tVar 2) tNil))) tNil)))) [.d .dk, .d (pD cons), .d (pD lasts), .d (.int most), .d (.int n), .no] { nx := fun _ => Q .non, rt := Q } := fun n hn hz => by
    iterate 4 walk_at "w"
    refine (wn_lcP (α := Nat) (j := 5) ⟨_, rfl, rfl⟩ (wi_range1 ?_)).e
    walk_at "ws"
    refine ⟨by omega, by omega, List.range n, fun i => .int (0 + (i : Nat)), fun _ y => ∃ x ∈ cons, y = .str x, rfl, fun z hz' p => ?_, fun acc hf => ?_⟩
    · walk_at "ws"
      refine ⟨rfl, _, _, rfl, rfl, fun e => ?_, by rw [List.length_map]; omega, fun x hx => ?_⟩
      · have ec : cons = [] := List.map_eq_nil_iff.mp e
        rcases hz with h0 | h0
        · subst h0
          simp at hz'
        · exact h0 ec
      · obtain ⟨y, hy, rfl⟩ := List.mem_map.mp hx
        exact ⟨y, hy, rfl⟩
    · obtain ⟨ks, rfl, hk⟩ := hf.map_ (f := D.str) fun a b ⟨x, _, e⟩ => ⟨x, e⟩
      have lk : ks.length = n := by rw [← hk.length, List.length_range]
      walk_at "ws"
      refine rc_tupL ?_
      walk_at "ws"
      refine ⟨rfl, _, _, rfl, rfl, fun e => hln (List.map_eq_nil_iff.mp e), by rw [List.length_map]; omega, fun x hx => ?_⟩
      obtain ⟨l, hl2, rfl⟩ := List.mem_map.mp hx
      walk_at "ws"
      refine ⟨line_of (by simp), ?_⟩
      refine rd_addT (by rw [List.length_map, lk]; exact line_of (by simp; omega)) ?_
      have e1 : ks.map D.str ++ [D.str l] = (ks ++ [l]).map D.str := by rw [List.map_append]; rfl
      rw [e1]
      refine q ks l (fun x hx => ?_) (by omega) hl2
      obtain ⟨y, hy, e⟩ := hk.all (R := fun x => ∃ y ∈ cons, D.str x = D.str y) (fun a c ⟨y, hy, e⟩ => ⟨y, hy, e⟩) x hx
      injection e with e
      subst e
      exact hy
  walk_at "ws"
  refine ⟨len1 0, ?_⟩
  refine rd_ne 1 (ok_pD ho) (ok_tup (by simp)) ⟨_, rfl, ?_⟩
  by_cases hc0 : cons = []
  · subst hc0
    have e : eqD (pD []) (.tup []) = true := eqD_same (n := 1) (ok_tup (by simp))
    rw [e]
    refine iff_ ?_
    walk_at "w"
    exact rest 0 (by omega) (.inl rfl)
  · rw [eqD_false (ok_pD (n := 0) ho) (ok_tup (n := 0) (by simp)) (by intro e; injection e with e; exact hc0 (List.map_eq_nil_iff.mp e))]
    refine ift ?_
    walk_at "ws"
    refine rd_addI ?_
    walk_at "ws"
    refine ⟨rfl, _, rfl, by omega, by omega, fun r r0 r1 => ?_⟩
    obtain ⟨n, rfl⟩ : ∃ n : Nat, r = n := ⟨r.toNat, by omega⟩
    exact rest n (by omega) (.inr hc0)
end
end

section
set_option Elab.async false
set_option autoImplicit false
set_option linter.all false
set_option maxRecDepth 100000
set_option maxHeartbeats 4000000
open PySem PySem.Spec PyProof.Rows L2
def ltr (n : Nat) : Str := ⟨#[97 + n]⟩
def good (y : Str) : Bool := isNm y && (!decide (y ∈ words) && PyData.strOk y)
theorem good_ok {y : Str} (h : good y = true) : isNm y = true ∧ y ∉ words ∧ sOk y := by
  unfold good at h
  rw [Bool.and_eq_true, Bool.and_eq_true] at h
  exact ⟨h.1, by simpa using h.2.1, h.2.2⟩
theorem fits_key {key : Str → Nat} : ∀ {idx : List Nat} {ns : List Str}, Fits (fun n y => good y = true ∧ key y = n) idx ns → ns.map key = idx
  | _, _, .nil => rfl
  | _, _, .cons h t => by rw [List.map_cons, h.2, fits_key t]
theorem nsOk_of {key : Str → Nat} {idx : List Nat} {ns : List Str} (h : Fits (fun n y => good y = true ∧ key y = n) idx ns) (nd : idx.Nodup) : NsOk ns := by
  have g : ∀ y ∈ ns, good y = true := h.all fun _ _ q => q.1
  have nd2 : (ns.map key).Nodup := by rw [fits_key h]; exact nd
  exact ⟨fun x hx => (good_ok (g x hx)).1, (List.pairwise_map.mp nd2).imp fun h e => h (congrArg key e), fun x hx => (good_ok (g x hx)).2.1, fun x hx => (good_ok (g x hx)).2.2⟩
def idx (f s : Nat) : List Nat := (List.range 16).map fun i => (f + s * i) % 26
def steps : List Nat := [1, 3, 5, 7, 9, 11, 15, 17]
theorem idx_nd : ∀ f < 26, ∀ s ∈ steps, (idx f s).Nodup := by decide +kernel
theorem idx_lt {f s n : Nat} (h : n ∈ idx f s) : n < 26 := by
  obtain ⟨i, _, rfl⟩ := List.mem_map.mp h
  exact Nat.mod_lt _ (by omega)
def kH (y : Str) : Nat := (y.cps.toList.headD 97) - 97
def kL (y : Str) : Nat := (y.cps.toList.getLastD 97) - 97
def ends : List Str := ["list", "opt", "num", ""]
theorem good0 : ∀ n < 26, good (ltr n) = true ∧ kH (ltr n) = n := by decide +kernel
theorem good1 : ∀ n < 26, good (("zzzzzzz" : Str) ++ ltr n) = true ∧ kL (("zzzzzzz" : Str) ++ ltr n) = n := by decide +kernel
theorem good2 : ∀ n < 26, ∀ t ∈ ends, good (ltr n ++ t) = true ∧ kH (ltr n ++ t) = n := by decide +kernel
theorem ltr_at : ∀ n < 26, letters.cps.toList[n]? = some (97 + n) := by decide +kernel
theorem Fits.refl_map {α β : Type} {P : α → β → Prop} {f : α → β} : ∀ {as : List α}, (∀ a ∈ as, P a (f a)) → Fits P as (as.map f)
  | [], _ => .nil
  | a :: as, h => .cons (h a (by simp)) (Fits.refl_map fun b hb => h b (List.mem_cons_of_mem _ hb))
theorem Fits.imp {α β : Type} {P R : α → β → Prop} : ∀ {as : List α} {bs : List β}, (∀ a ∈ as, ∀ b, P a b → R a b) → Fits P as bs → Fits R as bs
  | _, _, _, .nil => .nil
  | _, _, h, .cons p t => .cons (h _ (by simp) _ p) (t.imp fun a ha => h a (List.mem_cons_of_mem _ ha))
section
variable {G : Gx} {B : Addr → Prop} {H : Hp}
theorem law_names (ds : List D) (Q : D → Prop) (hl : ds.length = 2) (h : F__law_names ds Q) : WS ⟨G, B, H⟩ (t__law_names G) (ent 9 ds) { nx := fun _ => Q .non, rt := Q } := by
  obtain ⟨rfl, q⟩ := h
  unfold t__law_names
  walk_at "ws"
  refine ⟨rfl, 26, rfl, by omega, by omega, fun r r0 r1 => ?_⟩
  obtain ⟨f, rfl⟩ : ∃ n : Nat, r = n := ⟨r.toNat, by omega⟩
  have hf : f < 26 := by omega
  walk_at "ws"
  refine ⟨line_of (by simp), _, _, rfl, ?_⟩
  walk_at "ws"
  refine (wn_lst ?_).e
  walk_at "ws"
  refine ⟨line_of (by simp), ?_⟩
  walk_at "ws"
  refine ⟨rfl, _, steps.map fun s => .int (s : Nat), rfl, rfl, by decide, by decide, fun x hx => ?_⟩
  obtain ⟨s, hs, rfl⟩ := List.mem_map.mp hx
  have hs17 : s ≤ 17 := by
    have : ∀ s ∈ steps, s ≤ 17 := by decide
    exact this s hs
  have nd := idx_nd f hf s hs
  have li : (idx f s).length = 16 := by simp [idx]
  refine ws_seq (ws_asg (wn_lc1 (α := Nat) (j := 7) ⟨_, rfl, rfl⟩ (wi_range1 ?_)).e)
  walk_at "ws"
  refine ⟨by omega, by omega, List.range 16, fun i => .int (0 + (i : Nat)), fun i => some (.str (ltr ((f + s * i) % 26))), rfl, fun z hz p => ?_, ?_⟩
  · have hz16 : z < 16 := List.mem_range.mp hz
    walk_at "ws"
    refine rd_mul (.inl (by omega)) ?_
    refine rd_addI ?_
    walk_at "ws"
    refine rc_intI ?_
    walk_at "ws"
    refine rd_mod (by omega) ?_
    have e : ((f : Int) + (s : Int) * (0 + (z : Int))) % 26 = (((f + s * z) % 26 : Nat) : Int) := by
      rw [Int.zero_add]
      push_cast
      rfl
    rw [e]
    exact rd_ixS (z := letters) (by decide +kernel) (atI_n (ltr_at _ (Nat.mod_lt _ (by omega)))) rfl
  have e5 : ((List.range 16).filterMap fun i => some (D.str (ltr ((f + s * i) % 26)))) = ((idx f s).map ltr).map D.str := by
    rw [fm_some (fun i => D.str (ltr ((f + s * i) % 26)))]
    unfold idx
    rw [List.map_map, List.map_map]
    rfl
  rw [e5]
  walk_at "ws"
  refine ⟨rfl, 4, rfl, by omega, by omega, fun w w0 w1 => ?_⟩
  walk_at "ws"
  refine rd_eqII ⟨_, rfl, ifd (fun e1 => ?_) fun e1 => ?_⟩
  · walk_at "w"
    refine (wn_lc1 (α := Nat) (j := 8) ⟨_, rfl, rfl⟩ (wi_seq ?_)).e
    walk_at "ws"
    refine ⟨idx f s, fun n => .str (ltr n), fun n => some (.str (("zzzzzzz" : Str) ++ ltr n)), by rw [List.map_map]; rfl, fun z hz p => ?_, ?_⟩
    · walk_at "ws"
      exact rd_addS (by show 7 + 1 ≤ sizeLine; decide) rfl
    · rw [fm_some (fun n => D.str (("zzzzzzz" : Str) ++ ltr n))]
      have := q ((idx f s).map fun n => ("zzzzzzz" : Str) ++ ltr n) (nsOk_of (key := kL) (Fits.refl_map fun n hn => good1 n (idx_lt hn)) nd) (by rw [List.length_map, li])
      rw [List.map_map] at this
      exact this
  walk_at "ws"
  refine rd_eqII ⟨_, rfl, ifd (fun e2 => ?_) fun e2 => ?_⟩
  · walk_at "w"
    refine (wn_lcP (α := Nat) (j := 8) ⟨_, rfl, rfl⟩ (wi_seq ?_)).e
    walk_at "ws"
    refine ⟨idx f s, fun n => .str (ltr n), fun n y => ∃ t ∈ ends, y = .str (ltr n ++ t), by rw [List.map_map]; rfl, fun z hz p => ?_, fun acc hf => ?_⟩
    · walk_at "ws"
      refine (wn_lst ?_).e
      walk_at "ws"
      refine ⟨line_of (by simp), ?_⟩
      walk_at "ws"
      refine ⟨rfl, _, ends.map D.str, rfl, rfl, by decide, by decide, fun x hx => ?_⟩
      obtain ⟨t, ht, rfl⟩ := List.mem_map.mp hx
      have lt4 : ∀ t ∈ ends, t.length ≤ 4 := by decide +kernel
      refine rd_addS (by have := lt4 t ht; show 1 + t.length ≤ sizeLine; have : 100 ≤ sizeLine := by decide
                         omega) ⟨t, ht, rfl⟩
    · obtain ⟨ns, rfl, hk⟩ := hf.map_ (f := D.str) fun a b ⟨t, _, e⟩ => ⟨_, e⟩
      refine q ns (nsOk_of (key := kH) (hk.imp fun n hn y ⟨t, ht, e⟩ => ?_) nd) (by rw [← hk.length, li])
      injection e with e
      subst e
      exact good2 n (idx_lt hn) t ht
  · walk_at "ws"
    exact q _ (nsOk_of (key := kH) (Fits.refl_map fun n hn => good0 n (idx_lt hn)) nd) (by rw [List.length_map, li])
end
end

section
set_option Elab.async false
set_option autoImplicit false
set_option linter.all false
set_option maxRecDepth 100000
set_option maxHeartbeats 4000000
open PySem PySem.Spec PyProof.Rows L2
section
variable {G : Gx} {B : Addr → Prop} {H : Hp}
/-- a pattern of the law's is one -/
theorem pt_law {bases cons ks : List Str} {l : Str} (bc : BsOk bases cons) (hk : ∀ x ∈ ks, x ∈ cons) (hl : ks.length ≤ 2) (h : l = "T" ∨ l ∈ bases) : PtOk (ks ++ [l]) ∧ partOk bases cons (ks ++ [l]) := by
  have hne : ks ++ [l] ≠ [] := by simp
  have hgl : ∀ h, (ks ++ [l]).getLast h = l := fun h => by simp
  refine ⟨⟨hne, fun x hx => ?_, by rw [List.length_append]; simp; omega, fun x hx => ?_, ?_⟩, fun x hx => ?_, fun _ => ?_⟩
  · rcases List.mem_append.mp hx with hx | hx
    · exact bc.bc.c.ok x (hk x hx)
    · have : x = l := by simpa using hx
      subst this
      rcases h with h | h
      · subst h
        exact sOk_T
      · exact bc.bc.b.ok x h
  · rw [List.dropLast_concat] at hx
    exact bc.bc.c.nm x (hk x hx)
  · rw [hgl]
    rcases h with h | h
    · exact .inr h
    · exact .inl (bc.bc.b.nm l h)
  · rw [List.dropLast_concat] at hx
    exact hk x hx
  · rw [hgl]
    exact h
theorem hT_snoc (ks : List Str) (l : Str) : hT (ks ++ [l]) = decide (l = "T") := by
  unfold hT
  exact decide_eq_decide.mpr (by simp)
def PatP (bases cons : List Str) (y : D) : Prop := ∃ (ks : List Str) (l : Str), (∀ x ∈ ks, x ∈ cons) ∧ ks.length ≤ 2 ∧ (l = "T" ∨ l ∈ bases) ∧ y = pD (ks ++ [l])
theorem any_fm (ps : List Pt) : (!eqD (.lst (ps.filterMap fun p => if hT p = true then some (D.int 1) else none)) (.lst [])) = ps.any hT := by
  rw [fm_filter (fun p => hT p = true) (fun _ => D.int 1)]
  have okx : okD 1 (.lst ((ps.filter fun p => decide (hT p = true)).map fun _ => D.int 1)) = true := ok_lst (ok_map fun _ _ => ok_int)
  have oky : okD 1 (.lst []) = true := ok_lst (by simp)
  cases ha : ps.any hT with
  | true =>
    obtain ⟨p, hp, ht⟩ := List.any_eq_true.mp ha
    rw [eqD_false okx oky]
    · rfl
    · intro e
      injection e with e
      have := List.map_eq_nil_iff.mp e
      have hm : p ∈ ps.filter fun p => decide (hT p = true) := List.mem_filter.mpr ⟨hp, decide_eq_true ht⟩
      rw [this] at hm
      cases hm
  | false =>
    have e : (ps.filter fun p => decide (hT p = true)) = [] := List.filter_eq_nil_iff.mpr fun p hp h => by
      have := List.any_eq_false.mp ha p hp
      exact this (of_decide_eq_true h)
    rw [e]
    have := eqD_same oky
    rw [List.map_nil, this]
    rfl
theorem law_entry_rest {names bases cons : List Str} {s x : Str} {n : Nat} {Q : D → Prop} (bc : BsOk bases cons) (hs : s ∈ sorts) (hx : nameOk s x) (hn : numOk s n) (hn3 : n ≤ 4) (ox : sOk x) (q : ∀ e : En, EnOf bases cons e → Q (enD e)) :
    WS ⟨G, B, H⟩ (tSeq (tAsg (tCB (rTupU G.K) (tCons (tLc (iRng1 (tCons (tVar 6) tNil)) (gName 9) tYes (tCall (sp__law_pattern G) [] E0 (tCons (tVar 0) (tCons (tVar 3) (tCons (tOp (rAddU G.K) (tTup (tCons (tC (.str "T")) (tCons (tC (.str "T")) tNil))) (tVar 2)) (tCons (tC (.int 2)) tNil))))) [9]) tNil)) (gName 7))
    (tSeq (tAsg (tOp (rNeD G.K) (tLc (iSeq G.K (tVar 7)) (gName 10) (tTest (tOp (rEqD G.K) (tOp (rIx G.K) (tVar 10) (tUn (rU fun i => .int (-i)) (tC (.int 1)))) (tC (.str "T")))) (tC (.int 1)) [10]) (tLst tNil)) (gName 8))
    (tRet (tTup (tCons (tVar 4) (tCons (tVar 5) (tCons (tVar 7) (tCons (tCall (sp__law_pattern G) [] E0 (tCons (tVar 0) (tCons (tVar 3) (tCons (tIf (tB (tVar 8)) (tOp (rAddU G.K) (tTup (tCons (tC (.str "T")) (tCons (tC (.str "T")) tNil))) (tVar 2)) (tVar 2)) (tCons (tC (.int 2)) tNil))))) tNil)))))))) [.d .dk, .d (.lst (names.map D.str)), .d (pD bases), .d (pD cons), .d (.str s), .d (.str x), .d (.int (n : Nat)), .no, .no, .no, .no] { nx := fun _ => Q .non, rt := Q } := by
  have bl := bc.bl
  have cl := bc.cl
  have ob := bc.bc.b.ok
  have oc := bc.bc.c.ok
  iterate 4 walk_at "w"
  refine (wn_lcP (α := Nat) (j := 9) ⟨_, rfl, rfl⟩ (wi_range1 ?_)).e
  walk_at "ws"
  refine ⟨by omega, by omega, List.range n, fun i => .int (0 + (i : Nat)), fun _ y => PatP bases cons y, rfl, fun z hz p => ?_, fun acc hf => ?_⟩
  · walk_at "ws"
    refine ⟨line_of (by simp), ?_⟩
    walk_at "ws"
    refine rd_addT (xs := [.str "T", .str "T"]) (by rw [List.length_map]; exact line_of (by simp; omega)) ?_
    walk_at "ws"
    refine ⟨rfl, cons, "T" :: "T" :: bases, 2, rfl, by omega, by simp, by omega, by simp; omega, oc, fun ks l hk hl h => ⟨ks, l, hk, hl, by simpa using h, rfl⟩⟩
  obtain ⟨ps, rfl, hk⟩ := hf.map_ (f := pD) fun a b ⟨ks, l, _, _, _, e⟩ => ⟨_, e⟩
  have lk : ps.length = n := by rw [← hk.length, List.length_range]
  have hps : ∀ p ∈ ps, PtOk p ∧ partOk bases cons p := hk.all fun a p ⟨ks, l, h1, h2, h3, e⟩ => by
    rw [pD_inj e]
    exact pt_law bc h1 h2 h3
  walk_at "ws"
  refine rc_tupL ?_
  iterate 3 walk_at "w"
  refine (wn_lc1 (α := Pt) (j := 10) ⟨_, rfl, rfl⟩ (wi_seq ?_)).e
  walk_at "ws"
  refine ⟨ps, pD, fun p => if hT p = true then some (.int 1) else none, rfl, fun p hp a => ?_, ?_⟩
  · walk_at "ws"
    refine rd_ixT (atI_pD (hps p hp).1.ne) ?_
    walk_at "ws"
    refine rd_eqSS ((hps p hp).1.ok _ (List.getLast_mem (hps p hp).1.ne)) sOk_T ⟨_, rfl, ?_⟩
    rw [← hT_dec (hps p hp).1.ne]
    refine ifb (fun e => ?_) fun e => ?_
    · walk_at "ws"
      exact if_pos e
    · exact if_neg (by rw [e]; decide)
  refine (wn_lst ?_).e
  walk_at "ws"
  refine ⟨Nat.zero_le _, ?_⟩
  have okx : okD 1 (.lst (ps.filterMap fun p => if hT p = true then some (D.int 1) else none)) = true := by
    rw [fm_filter (fun p => hT p = true) (fun _ => D.int 1)]
    exact ok_lst (ok_map fun _ _ => ok_int)
  refine rd_ne 1 okx (ok_lst (by simp)) ?_
  rw [any_fm]
  have fin : ∀ (ks : List Str) (l : Str), (∀ x ∈ ks, x ∈ cons) → ks.length ≤ 2 → (l = "T" ∨ l ∈ bases) → (hT (ks ++ [l]) = false ∨ ∃ p ∈ ps, hT p = true) → Q (enD ⟨s, x, ps, ks ++ [l]⟩) := fun ks l h1 h2 h3 h4 => by
    obtain ⟨p1, p2⟩ := pt_law bc h1 h2 h3
    exact q ⟨s, x, ps, ks ++ [l]⟩ ⟨⟨hs, hx, by rw [lk]; exact hn, fun p hp => (hps p hp).1, p1, h4, ox⟩, fun p hp => (hps p hp).2, p2⟩
  walk_at "ws"
  refine ifb (fun e => ?_) fun e => ?_
  · walk_at "ws"
    refine ⟨line_of (by simp), ?_⟩
    walk_at "ws"
    refine rd_addT (xs := [.str "T", .str "T"]) (by rw [List.length_map]; exact line_of (by simp; omega)) ?_
    walk_at "ws"
    refine ⟨rfl, cons, "T" :: "T" :: bases, 2, rfl, by omega, by simp, by omega, by simp; omega, oc, fun ks l h1 h2 h3 => ?_⟩
    walk_at "ws"
    exact ⟨line_of (by simp), fin ks l h1 h2 (by simpa using h3) (.inr (List.any_eq_true.mp e))⟩
  · walk_at "ws"
    refine ⟨rfl, cons, bases, 2, rfl, by omega, bc.bc.ne, by omega, by omega, oc, fun ks l h1 h2 h3 => ?_⟩
    walk_at "ws"
    refine ⟨line_of (by simp), fin ks l h1 h2 (.inr h3) (.inl ?_)⟩
    rw [hT_snoc]
    refine decide_eq_false fun e2 => ?_
    subst e2
    have := bc.bc.b.nm _ h3
    revert this
    decide +kernel
theorem law_entry (ds : List D) (Q : D → Prop) (hl : ds.length = 4) (h : F__law_entry ds Q) : WS ⟨G, B, H⟩ (t__law_entry G) (ent 11 ds) { nx := fun _ => Q .non, rt := Q } := by
  obtain ⟨names, bases, cons, rfl, bc, hne, hln, hnm, q⟩ := h
  unfold t__law_entry
  walk_at "ws"
  refine (wn_lst ?_).e
  walk_at "ws"
  refine ⟨line_of (by simp), ?_⟩
  walk_at "ws"
  refine ⟨rfl, _, (["function", "function", "method", "method", "operator"] : List Str).map D.str, rfl, rfl, by decide, by decide, fun x hx => ?_⟩
  obtain ⟨s, hs, rfl⟩ := List.mem_map.mp hx
  walk_at "ws"
  refine ⟨rfl, _, names.map D.str, rfl, rfl, fun e => hne (List.map_eq_nil_iff.mp e), by rw [List.length_map]; omega, fun x hx => ?_⟩
  obtain ⟨nm, hnm', rfl⟩ := List.mem_map.mp hx
  obtain ⟨n1, n2, n3⟩ := hnm nm hnm'
  walk_at "ws"
  refine (wn_lst ?_).e
  walk_at "ws"
  refine ⟨line_of (by simp), ?_⟩
  walk_at "ws"
  refine ⟨rfl, _, ([1, 1, 2, 0, 3] : List Nat).map fun n => D.int (n : Nat), rfl, rfl, by decide, by decide, fun x hx => ?_⟩
  obtain ⟨n, hn, rfl⟩ := List.mem_map.mp hx
  have hn3 : n ≤ 3 := by
    have : ∀ n ∈ ([1, 1, 2, 0, 3] : List Nat), n ≤ 3 := by decide
    exact this n hn
  have hs3 : s = "function" ∨ s = "method" ∨ s = "operator" := by
    have : s = "function" ∨ s = "function" ∨ s = "method" ∨ s = "method" ∨ s = "operator" := by simpa using hs
    rcases this with h | h | h | h | h
    · exact .inl h
    · exact .inl h
    · exact .inr (.inl h)
    · exact .inr (.inl h)
    · exact .inr (.inr h)
  have osrt : sOk s := by
    rcases hs3 with h | h | h <;> subst h <;> decide +kernel
  have fm : ¬ (("function" : Str) = "method") := by decide +kernel
  have fo : ¬ (("function" : Str) = "operator") := by decide +kernel
  have mo : ¬ (("method" : Str) = "operator") := by decide +kernel
  have om : ¬ (("operator" : Str) = "method") := by decide +kernel
  have sm : sOk "method" := by decide +kernel
  walk_at "ws"
  refine rd_eqSS osrt sOk_oper ⟨_, rfl, ifd (fun e => ?_) fun e => ?_⟩
  · subst e
    walk_at "ws"
    refine (wn_lst ?_).e
    walk_at "ws"
    refine ⟨line_of (by simp), ?_⟩
    walk_at "ws"
    refine ⟨rfl, _, (["+", "|"] : List Str).map D.str, rfl, rfl, by decide, by decide, fun x hx => ?_⟩
    obtain ⟨op, hop, rfl⟩ := List.mem_map.mp hx
    have ho : op ∈ opers ∧ sOk op := by
      have : op = "+" ∨ op = "|" := by simpa using hop
      rcases this with h | h <;> subst h <;> decide +kernel
    walk_at "ws"
    refine rd_eqSS osrt sm ⟨_, rfl, ?_⟩
    rw [decide_eq_false om]
    refine iff_ (iff_ ?_)
    walk_at "w"
    exact law_entry_rest (n := 2) bc (by decide +kernel) (by unfold nameOk; rw [if_pos rfl]; exact ho.1) (by unfold numOk; rw [if_pos rfl]) (by omega) ho.2 q
  · walk_at "ws"
    have hx : nameOk s nm := by
      unfold nameOk
      rw [if_neg e]
      exact ⟨n1, n2⟩
    refine rd_eqSS osrt sm ⟨_, rfl, ifd (fun e2 => ?_) fun e2 => ?_⟩
    · subst e2
      walk_at "ws"
      refine rd_eqII ⟨_, rfl, ifd (fun e3 => ?_) fun e3 => ?_⟩
      · walk_at "w"
        exact law_entry_rest (n := 1) bc (by decide +kernel) hx (by unfold numOk; rw [if_neg e]; exact ⟨by omega, .inl (by omega)⟩) (by omega) n3 q
      · walk_at "w"
        exact law_entry_rest (n := n) bc (by decide +kernel) hx (by unfold numOk; rw [if_neg e]; exact ⟨by omega, .inl (by omega)⟩) (by omega) n3 q
    · refine iff_ ?_
      walk_at "w"
      have ef : s = "function" := by
        rcases hs3 with h | h | h
        · exact h
        · exact absurd h e2
        · exact absurd h e
      exact law_entry_rest (n := n) bc (by subst ef; decide +kernel) hx (by unfold numOk; rw [if_neg e]; exact ⟨by omega, .inr ef⟩) (by omega) n3 q
end
end

section
set_option Elab.async false
set_option autoImplicit false
set_option linter.all false
set_option maxRecDepth 100000
set_option maxHeartbeats 4000000
open PySem PySem.Spec PyProof.Rows L2
section
variable {G : Gx} {B : Addr → Prop} {H : Hp}
theorem law_lclash (ds : List D) (Q : D → Prop) (hl : ds.length = 2) (h : F__law_do_clash ds Q) : WS ⟨G, B, H⟩ (t__law_do_clash G) (ent 2 ds) { nx := fun _ => Q .non, rt := Q } := by
  obtain ⟨a, b, rfl, ha, hb, q⟩ := h
  unfold t__law_do_clash
  walk_at "ws"
  refine rs_tup ?_
  walk_at "ws"
  refine rs_tup ?_
  rw [cut_four, cut_four]
  refine rd_eq 1 (ok_head ha) (ok_head hb) ⟨_, rfl, ?_⟩
  by_cases h1 : a.sort = b.sort ∧ a.name = b.name
  · have e1 : eqD (.tup [.str a.sort, .str a.name]) (.tup [.str b.sort, .str b.name]) = true := (eqD_true (ok_head (n := 0) ha) (ok_head (n := 0) hb)).mpr (by rw [h1.1, h1.2])
    rw [e1]
    refine ift ?_
    walk_at "ws"
    refine rd_ixT (d := .tup (a.ps.map pD)) rfl ?_
    walk_at "ws"
    refine rc_lenT ?_
    walk_at "ws"
    refine rd_ixT (d := .tup (b.ps.map pD)) rfl ?_
    walk_at "ws"
    refine rc_lenT ?_
    rw [List.length_map, List.length_map]
    refine rd_eqII ⟨_, rfl, ifd (fun h2 => ?_) fun h2 => ?_⟩
    · have hlen : a.ps.length = b.ps.length := by omega
      have l4 : a.ps.length ≤ 4 := by
        have := ha.num
        unfold numOk at this
        split at this <;> omega
      walk_at "ws"
      refine rd_ixT (d := .tup (a.ps.map pD)) rfl ?_
      walk_at "ws"
      refine rd_ixT (d := .tup (b.ps.map pD)) rfl ?_
      walk_at "ws"
      exact ⟨rfl, a.ps, b.ps, rfl, hlen, l4, ha.ps, hb.ps, fun c hc => q c (hc.trans ⟨fun m => ⟨h1.1, h1.2, hlen, m⟩, fun ⟨_, _, _, m⟩ => m⟩)⟩
    · exact q false ⟨fun e => (by cases e), fun ⟨_, _, h, _⟩ => absurd h (by omega)⟩
  · rw [eqD_false (ok_head (n := 0) ha) (ok_head (n := 0) hb) (fun z => by
      injection z with z
      injection z with z1 z2
      injection z2 with z2 z3
      injection z1 with z1
      injection z2 with z2
      exact h1 ⟨z1, z2⟩)]
    exact iff_ (q false ⟨fun e => (by cases e), fun ⟨x, y, _⟩ => absurd ⟨x, y⟩ h1⟩)
end
end

section
set_option Elab.async false
set_option autoImplicit false
set_option linter.all false
set_option maxRecDepth 100000
set_option maxHeartbeats 4000000
open PySem PySem.Spec PyProof.Rows L2
section
variable {G : Gx} {B : Addr → Prop} {H : Hp}
theorem ok_rcD {bases cons : List Str} {r : Rc} (h : RcOk bases cons r) : okD 5 (rcD r) = true := ok_tup fun d hd => by
  have h4 : d = .int r.h ∨ d = .int r.n ∨ d = .int r.day ∨ d = ddD r.deed := by simpa using hd
  rcases h4 with rfl | rfl | rfl | rfl
  · exact ok_int
  · exact ok_int
  · exact ok_int
  · exact ok_ddD h.deed.en
theorem law_drawn_deed (ds : List D) (Q : D → Prop) (hl : ds.length = 4) (h : F__law_drawn_deed ds Q) : WS ⟨G, B, H⟩ (t__law_drawn_deed G) (ent 5 ds) { nx := fun _ => Q .non, rt := Q } := by
  obtain ⟨pool, hands, found, bases, cons, rfl, pne, pl, fl, h0, h1, hp, hf, q⟩ := h
  unfold t__law_drawn_deed
  have tail : WS ⟨G, B, H⟩ (tRet (tTup (tCons (tCall (sp__law_pick G) [] E0 (tCons (tVar 0) (tCons (tLst (tCons (tC (.str "add")) (tCons (tC (.str "add")) (tCons (tC (.str "drop")) tNil)))) tNil))) (tCons (tCall (sp__law_pick G) [] E0 (tCons (tVar 0) (tCons (tVar 1) tNil))) tNil)))) (ent 5 [.dk, .lst (pool.map enD), .int hands, .lst (found.map rcD)]) { nx := fun _ => Q .non, rt := Q } → True := fun _ => trivial
  walk_at "ws"
  refine ⟨rfl, 8, rfl, by omega, by omega, fun w w0 w1 => ?_⟩
  have okf : okD 6 (.lst (found.map rcD)) = true := ok_lst (ok_map fun r hr => ok_rcD (hf r hr).1)
  have last : WS ⟨G, B, H⟩ (tSeq (tIfS (tTest (tOp (rEqD G.K) (tVar 4) (tC (.int 3)))) (tRet (tTup (tCons (tC (.str "undo")) (tCons (tCall (sp__law_draw G) [] E0 (tCons (tVar 0) (tCons (tOp (rAddU G.K) (tVar 2) (tC (.int 1))) tNil))) (tCons (tCall (sp__law_draw G) [] E0 (tCons (tVar 0) (tCons (tC (.int 6)) tNil))) tNil))))) tNext)
    (tRet (tTup (tCons (tCall (sp__law_pick G) [] E0 (tCons (tVar 0) (tCons (tLst (tCons (tC (.str "add")) (tCons (tC (.str "add")) (tCons (tC (.str "drop")) tNil)))) tNil))) (tCons (tCall (sp__law_pick G) [] E0 (tCons (tVar 0) (tCons (tVar 1) tNil))) tNil))))) [.d .dk, .d (.lst (pool.map enD)), .d (.int hands), .d (.lst (found.map rcD)), .d (.int w)] { nx := fun _ => Q .non, rt := Q } := by
    walk_at "ws"
    refine rd_eqII ⟨_, rfl, ifd (fun e => ?_) fun e => ?_⟩
    · walk_at "ws"
      refine rd_addI ?_
      walk_at "ws"
      refine ⟨rfl, _, rfl, by omega, by omega, fun a a0 a1 => ?_⟩
      walk_at "ws"
      refine ⟨rfl, 6, rfl, by omega, by omega, fun b b0 b1 => ?_⟩
      walk_at "ws"
      exact ⟨line_of (by simp), q (.undo a b) ⟨a0, b0⟩ ⟨⟨a0, by omega⟩, ⟨b0, by omega⟩⟩⟩
    · walk_at "ws"
      refine (wn_lst ?_).e
      walk_at "ws"
      refine ⟨line_of (by simp), ?_⟩
      walk_at "ws"
      refine ⟨rfl, _, (["add", "add", "drop"] : List Str).map D.str, rfl, rfl, by decide, by decide, fun x hx => ?_⟩
      obtain ⟨wd, hw, rfl⟩ := List.mem_map.mp hx
      walk_at "ws"
      refine ⟨rfl, _, pool.map enD, rfl, rfl, fun e => pne (List.map_eq_nil_iff.mp e), by rw [List.length_map]; omega, fun x hx => ?_⟩
      obtain ⟨en, he, rfl⟩ := List.mem_map.mp hx
      walk_at "ws"
      refine ⟨line_of (by simp), ?_⟩
      have h2 : wd = "add" ∨ wd = "drop" := by
        have : wd = "add" ∨ wd = "add" ∨ wd = "drop" := by simpa using hw
        rcases this with h | h | h
        · exact .inl h
        · exact .inl h
        · exact .inr h
      rcases h2 with rfl | rfl
      · exact q (.add en) (hp en he) trivial
      · exact q (.drop en) (hp en he) trivial
  walk_at "ws"
  refine rd_lt ⟨_, rfl, ifd (fun e => ?_) fun e => iff_ ?_⟩
  · walk_at "ws"
    refine (wn_lst ?_).e
    walk_at "ws"
    refine ⟨Nat.zero_le _, ?_⟩
    refine rd_ne 6 okf (ok_lst (by simp)) ⟨_, rfl, ifb (fun e2 => ?_) fun e2 => ?_⟩
    · have fne : found ≠ [] := fun z => by
        subst z
        have : eqD (.lst (List.map rcD [])) (.lst []) = true := eqD_same (n := 6) okf
        rw [this] at e2
        cases e2
      walk_at "ws"
      refine ⟨line_of (by simp), ?_⟩
      walk_at "ws"
      refine ⟨rfl, _, found.map rcD, rfl, rfl, fun e => fne (List.map_eq_nil_iff.mp e), by rw [List.length_map]; omega, fun x hx => ?_⟩
      obtain ⟨r, hr, rfl⟩ := List.mem_map.mp hx
      walk_at "ws"
      refine rs_tup ?_
      refine rd_addT (ys := [.int r.h, .int r.n]) (by exact line_of (by simp)) ?_
      exact q (.undo r.h r.n) ⟨(hf r hr).1.h, (hf r hr).1.n⟩ ⟨(hf r hr).2.h, (hf r hr).2.n⟩
    · walk_at "w"
      exact last
  · walk_at "w"
    exact last
end
end

section
set_option Elab.async false
set_option autoImplicit false
set_option linter.all false
set_option maxRecDepth 100000
set_option maxHeartbeats 4000000
open PySem PySem.Spec PyProof.Rows L2
section
variable {S : Sc} {ρ : List Sl}
theorem we_prop {C : Addr} {f : Str} {te : TE} {Q : D → Prop} (h : WE S te ρ fun x => ∃ fs d, x = .ins C fs ∧ fs.lookup f = some d ∧ Q d) : WE S (tProp C (getSp C f) [] E0 te) ρ Q := fun σ H R Qv k =>
  h σ H R _ fun v H1 x e1 q1 ⟨fs, d, ex, hl, hq⟩ => by
    subst ex
    obtain ⟨a, dx, us, rfl, h1, nb, hk, r⟩ := dq_ins q1
    obtain ⟨w, hw, qw⟩ := look_rel hk r hl
    exact ⟨a, dx, us, rfl, h1, a, dx, us, w, rfl, h1, hw, k w H1 d e1 qw hq⟩
theorem we_cmethK {n m l : Nat} {C : Addr} {F : FD} {ta : TE} {t tk : TA} {Q : D → Prop} (h : WE S ta ρ fun d => d = .adr C ∧ WA S t ρ fun as => WA S tk ρ fun ks => as.length = n ∧ ks.length = m ∧ 1 + n + m = l ∧ F (.adr C :: (as ++ ks)) Q) : WE S (tCMethK C n m (spD S.G l F) ta t tk) ρ Q := fun σ H R Qv k =>
  h σ H R _ fun v H1 d e1 q1 ⟨ed, h2⟩ => by
    subst ed
    cases q1
    refine ⟨rfl, h2 σ H1 (R.mono e1) _ fun vs H2 as e2 q2 h3 => h3 σ H2 (R.mono (e1.trans e2)) _ fun zs H3 ks e3 q3 ⟨la, lk, ll, hF⟩ => ?_⟩
    have e123 : Ex S.G H H3 := e1.trans (e2.trans e3)
    refine ⟨by rw [q2.length, la], by rw [q3.length, lk], hid S.B ρ, _, Q, e123.t R.tb, R.alc.mono e123, .cons (.adr C) ((q2.mono e3).append q3), by rw [List.length_cons, List.length_append]; omega, hF, fun d v H4 hq e4 qd => k v H4 d (e123.trans e4) qd hq⟩
end
section
variable {G : Gx} {B : Addr → Prop} {H : Hp}
theorem fold_mem : ∀ (done : List Rc) (st : List Rc × List (Int × Int)) (x : Rc), x ∈ (done.foldl lvStep st).1 → x ∈ st.1 ∨ x ∈ done
  | [], st, x, h => .inl h
  | r :: rs, st, x, h => by
    rcases fold_mem rs (lvStep st r) x h with h | h
    · unfold lvStep at h
      split at h
      · exact .inl h
      · rcases List.mem_append.mp h with h | h
        · exact .inl h
        · exact .inr (by simp at h; simp [h])
    · exact .inr (List.mem_cons_of_mem _ h)
theorem liveR_mem {rs : List Rc} {day : Int} {x : Rc} (h : x ∈ liveR rs day) : x ∈ rs := by
  unfold liveR at h
  have h := fold_mem _ _ _ (List.mem_reverse.mp h)
  rcases h with h | h
  · cases h
  · have h2 := (List.mergeSort_perm _ _).mem_iff.mp (List.mem_reverse.mp h)
    exact (List.mem_filter.mp h2).1
theorem liveR_len (rs : List Rc) (day : Int) : (liveR rs day).length ≤ rs.length := by
  unfold liveR
  have h := fold_len (srtR (rs.filter fun r => decide (r.day ≤ day))).reverse ([], [])
  have h2 : (srtR (rs.filter fun r => decide (r.day ≤ day))).length ≤ rs.length := by
    unfold srtR
    rw [List.length_mergeSort]
    exact List.length_filter_le _ _
  have h' : ((srtR (rs.filter fun r => decide (r.day ≤ day))).reverse.foldl lvStep ([], [])).1.length ≤ 0 + (srtR (rs.filter fun r => decide (r.day ≤ day))).reverse.length := h
  rw [List.length_reverse (as := srtR _)] at h'
  rw [List.length_reverse]
  omega
/-- entries that a library may hold -/
structure EsOk (bases cons : List Str) (n : Nat) (es : List En) : Prop where
  mem : ∀ e ∈ es, EnOf bases cons e
  nc : NoCl es
  short : es.length ≤ n
theorem EsOk.behind {bases cons : List Str} {n : Nat} {es : List En} (h : EsOk bases cons n es) {d : Dd} (hd : DdOk bases cons d) : EsOk bases cons (n + 1) (behind es d) := by
  cases d with
  | undo a b => exact ⟨h.mem, h.nc, by have := h.short; show es.length ≤ n + 1; omega⟩
  | drop e =>
    refine ⟨fun x hx => h.mem x (List.mem_filter.mp hx).1, h.nc.sublist List.filter_sublist, ?_⟩
    have := h.short
    have := List.length_filter_le (fun o => decide (o ≠ e)) es
    show (es.filter _).length ≤ _
    omega
  | add e =>
    by_cases hn : ∃ o ∈ es, clash o e
    · rw [show Sw.behind es (.add e) = es from if_pos hn]
      exact ⟨h.mem, h.nc, by have := h.short; omega⟩
    · rw [show Sw.behind es (.add e) = es ++ [e] from if_neg hn]
      refine ⟨fun x hx => ?_, ?_, by have := h.short; rw [List.length_append]; simp; omega⟩
      · rcases List.mem_append.mp hx with hx | hx
        · exact h.mem x hx
        · have : x = e := by simpa using hx
          subst this
          exact hd
      · refine List.pairwise_append.mpr ⟨h.nc, by simp, fun a ha b hb hc => ?_⟩
        have : b = e := by simpa using hb
        subst this
        exact hn ⟨a, ha, hc⟩
theorem dayE_ok {bases cons : List Str} {n : Nat} {es : List En} (h : EsOk bases cons n es) : ∀ {ls : List Rc}, (∀ r ∈ ls, DdOk bases cons r.deed) → EsOk bases cons (n + ls.length) (ls.foldl (fun acc r => behind acc r.deed) es)
  | [], _ => h
  | r :: ls, hl => by
    have := dayE_ok (h.behind (hl r (by simp))) fun r hr => hl r (List.mem_cons_of_mem _ hr)
    rw [List.foldl_cons, List.length_cons]
    exact ⟨this.mem, this.nc, by have := this.short; omega⟩
theorem dayE_day {L : Lby} (ok : LbOk L) {rs : List Rc} (hr : RcsOk L.bases L.cons rs) (hz : L.es.length + rs.length ≤ 100) (day : Int) : LbOk { L with es := dayE L.es rs day } := by
  have h := dayE_ok (n := L.es.length) ⟨ok.es, ok.nc, Nat.le_refl _⟩ (ls := liveR rs day) fun r h => (hr.ok r (liveR_mem h)).deed
  have := liveR_len rs day
  exact ⟨ok.bc, h.mem, h.nc, ok.nu, ok.qu, ok.tr, by have := h.short; show (dayE L.es rs day).length ≤ 100; unfold dayE; omega⟩
theorem law_library_of_day (hL : LbK G.K (lbC G)) (ds : List D) (Q : D → Prop) (hl : ds.length = 3) (h : F_library_of_day (lbC G) ds Q) : WS ⟨G, B, H⟩ (t_library_of_day G) (ent 8 ds) { nx := fun _ => Q .non, rt := Q } := by
  obtain ⟨L, rs, day, rfl, ok, hz, hr, q⟩ := h
  unfold t_library_of_day
  iterate 2 walk_at "w"
  refine (wn_cb ?_).e
  walk_at "w"
  refine we_prop (S := ⟨G, B, H⟩) ?_
  walk_at "ws"
  refine ⟨_, _, rfl, rfl, ?_⟩
  walk_at "ws"
  refine rcn_lst rfl ?_
  walk_at "w"
  have hll := liveR_len rs day
  refine ws_for1 rcD (liveR rs day) (fun done ρ => ∃ s, s.ads = [] ∧ ρ = [.d (lbD (lbC G) L), .d (.tup (rs.map rcD)), .d (.int day), .d (.lst ((done.foldl (fun acc r => behind acc r.deed) L.es).map enD)), s, .no, .no, .no]) (wi_seq ?_)
  walk_at "ws"
  refine ⟨rfl, rs, day, rfl, hr.short, ?_⟩
  refine ⟨_, rfl, rfl, ⟨_, rfl, rfl⟩, ?_, ?_⟩
  · rintro zp z zq ρ' ez ⟨s, hs, rfl⟩
    have hzr : z ∈ rs := liveR_mem (by rw [ez]; simp)
    have hzd := (hr.ok z hzr).deed
    have lz : zp.length + 1 ≤ (liveR rs day).length := by
      rw [ez, List.length_append, List.length_cons]
      omega
    have eo := dayE_ok (n := L.es.length) ⟨ok.es, ok.nc, Nat.le_refl _⟩ (ls := zp) fun r h => (hr.ok r (liveR_mem (by rw [ez]; exact List.mem_append_left _ h))).deed
    walk_at "ws"
    refine rd_ixT (d := ddD z.deed) rfl ?_
    walk_at "ws"
    cases hd : z.deed with
    | undo a b =>
      refine rd_ixT (d := .str "undo") rfl ?_
      walk_at "ws"
      refine rd_neSS (by decide +kernel) (by decide +kernel) ⟨_, rfl, iff_ ?_⟩
      walk_at "w"
      refine ⟨.d (rcD z), rfl, ?_⟩
      rw [List.foldl_append, List.foldl_cons, List.foldl_nil, hd]
      rfl
    | add e =>
      refine rd_ixT (d := .str "add") rfl ?_
      walk_at "ws"
      refine rd_neSS (by decide +kernel) (by decide +kernel) ⟨_, rfl, ift ?_⟩
      walk_at "ws"
      refine rd_ixT (d := ddD z.deed) rfl ?_
      walk_at "ws"
      refine ⟨rfl, _, z.deed, rfl, by rw [hd]; rfl, fun x hx => (eo.mem x hx).ok, fun x hx => ?_, by have := eo.short; omega, ?_⟩
      · rw [hd] at hx hzd
        rcases hx with hx | hx
        · cases hx
          exact EnOf.ok hzd
        · cases hx
      · refine ⟨.d (rcD z), rfl, ?_⟩
        rw [List.foldl_append, List.foldl_cons, List.foldl_nil]
        rfl
    | drop e =>
      refine rd_ixT (d := .str "drop") rfl ?_
      walk_at "ws"
      refine rd_neSS (by decide +kernel) (by decide +kernel) ⟨_, rfl, ift ?_⟩
      walk_at "ws"
      refine rd_ixT (d := ddD z.deed) rfl ?_
      walk_at "ws"
      refine ⟨rfl, _, z.deed, rfl, by rw [hd]; rfl, fun x hx => (eo.mem x hx).ok, fun x hx => ?_, by have := eo.short; omega, ?_⟩
      · rw [hd] at hx hzd
        rcases hx with hx | hx
        · cases hx
        · cases hx
          exact EnOf.ok hzd
      · refine ⟨.d (rcD z), rfl, ?_⟩
        rw [List.foldl_append, List.foldl_cons, List.foldl_nil]
        rfl
  · rintro ρ' ⟨s, hs, rfl⟩
    walk_at "ws"
    refine ⟨rfl, L, rfl, ?_⟩
    walk_at "ws"
    refine we_cmethK (S := ⟨G, B, H⟩) (we_adr ⟨rfl, ?_⟩)
    walk_at "w"
    refine we_fld ?_
    walk_at "ws"
    refine ⟨_, _, _, rfl, hL.cls, hL.no _ (by simp), rfl, ?_⟩
    walk_at "w"
    refine we_fld ?_
    walk_at "ws"
    refine ⟨_, _, _, rfl, hL.cls, hL.no _ (by simp), rfl, ?_⟩
    walk_at "ws"
    refine rc_tupL ?_
    walk_at "ws"
    exact ⟨rfl, rfl, rfl, { L with es := dayE L.es rs day }, rfl, dayE_day ok hr hz day, q⟩
theorem law_live (ds : List D) (Q : D → Prop) (hl : ds.length = 3) (h : F_live (lbC G) ds Q) : WS ⟨G, B, H⟩ (t_live G) (ent 3 ds) { nx := fun _ => Q .non, rt := Q } := by
  obtain ⟨L, rs, day, rfl, hr, hd, q⟩ := h
  unfold t_live
  walk_at "ws"
  refine ⟨rfl, L, rs, rfl, hr, ?_⟩
  walk_at "ws"
  refine ⟨rfl, day, rfl, hd, ?_⟩
  walk_at "ws"
  refine ⟨rfl, rs, day, rfl, hr.short, ?_⟩
  walk_at "ws"
  exact rc_tupL q
theorem law_library_on (ds : List D) (Q : D → Prop) (hl : ds.length = 3) (h : F_library_on (lbC G) ds Q) : WS ⟨G, B, H⟩ (t_library_on G) (ent 3 ds) { nx := fun _ => Q .non, rt := Q } := by
  obtain ⟨L, rs, day, rfl, ok, hz, hr, hd, q⟩ := h
  unfold t_library_on
  walk_at "ws"
  refine ⟨rfl, L, rs, rfl, hr, ?_⟩
  walk_at "ws"
  refine ⟨rfl, day, rfl, hd, ?_⟩
  walk_at "ws"
  exact ⟨rfl, L, rs, day, rfl, ok, hz, hr, q⟩
end
end

section
set_option Elab.async false
set_option autoImplicit false
set_option linter.all false
set_option maxRecDepth 100000
set_option maxHeartbeats 4000000
open PySem PySem.Spec PyProof.Rows L2
section
variable {G : Gx} {B : Addr → Prop} {H : Hp}
theorem law_library (ds : List D) (Q : D → Prop) (hl : ds.length = 2) (h : F__law_library (lbC G) ds Q) : WS ⟨G, B, H⟩ (t__law_library G) (ent 5 ds) { nx := fun _ => Q .non, rt := Q } := by
  obtain ⟨L, names, es, rfl, ok, q⟩ := h
  unfold t__law_library
  refine ws_seq (ws_asgG (js := [2] ++ ([3] ++ ([4] ++ []))) (we_dget (we_var 0 rfl (we_str ⟨.inr "roles", _, .lst [oD L.nu, oD L.qu, oD L.tr], rfl, rfl, rfl, ?_⟩))))
  refine wg_lst (S := ⟨G, B, H⟩) rfl (wgs_cons (wg_name (wgs_cons (wg_name (wgs_cons (wg_name (wgs_nil ?_)))))))
  refine ws_ret (we_cmethK (S := ⟨G, B, H⟩) (we_adr ⟨rfl, ?_⟩))
  refine wa_cons (we_dget (we_var 0 rfl (we_str ⟨.inr "bases", _, pD L.bases, rfl, rfl, rfl, ?_⟩)))
  refine wa_cons (we_dget (we_var 0 rfl (we_str ⟨.inr "constructors", _, pD L.cons, rfl, rfl, rfl, ?_⟩)))
  walk_at "ws"
  exact ⟨rfl, rfl, rfl, { L with es := es }, rfl, ok, q⟩
end
end

section
set_option Elab.async false
set_option autoImplicit false
set_option linter.all false
set_option maxRecDepth 100000
set_option maxHeartbeats 4000000
open PySem PySem.Spec PyProof.Rows L2
section
variable {G : Gx} {B : Addr → Prop} {H : Hp}
theorem gone_in {us : List (Int × Int)} {a b : Int} : ((us.map fun p => iD [p.1, p.2]).any fun z => eqD z (iD [a, b])) = decide ((a, b) ∈ us) := by
  induction us with
  | nil => simp
  | cons p ps ih =>
    rw [List.map_cons, List.any_cons, ih]
    by_cases e : p = (a, b)
    · subst e
      rw [eqD_same (n := 1) ok_iD]
      simp
    · rw [eqD_false (n := 1) (m := 1) ok_iD ok_iD (fun z => e (by
        injection z with z
        simp at z
        exact Prod.ext z.1 z.2))]
      rw [Bool.false_or]
      exact decide_eq_decide.mpr ⟨fun h => List.mem_cons_of_mem _ h, fun h => (List.mem_cons.mp h).resolve_left (Ne.symm e)⟩
theorem ok_goneL {us : List (Int × Int)} : okDs 1 (us.map fun p => iD [p.1, p.2]) = true := okDs_all.mpr (ok_map fun _ _ => ok_iD)
theorem law_llive (ds : List D) (Q : D → Prop) (hl : ds.length = 2) (h : F__law_live ds Q) : WS ⟨G, B, H⟩ (t__law_live G) (ent 6 ds) { nx := fun _ => Q .non, rt := Q } := by
  obtain ⟨rs, day, rfl, hz, q⟩ := h
  unfold t__law_live
  refine ws_seq (ws_parLL fun p r => ?_)
  refine ws_seq (ws_for1 rcD (srtR (rs.filter fun r => decide (r.day ≤ day))).reverse (fun done ρ => ∃ s, s.ads = [] ∧ ρ = [.d (.tup (rs.map rcD)), .d (.int day), .own p (.lst ((lvAt done).1.map rcD)), .own r (.lst ((lvAt done).2.map fun p => iD [p.1, p.2])), s, .no]) (wi_seq ?_))
  refine (wn_rev ?_).e
  refine (wn_sortKL (S := ⟨G, B, H⟩) (α := Rc) (by decide) ?_).e
  refine (wn_lc1 (α := Rc) (j := 5) ⟨_, rfl, rfl⟩ (wi_seq ?_)).e
  walk_at "ws"
  refine ⟨rs, rcD, fun r => if r.day ≤ day then some (rcD r) else none, rfl, fun z hz p2 => ?_, ?_⟩
  · walk_at "ws"
    refine rd_ixT (d := .int z.day) rfl ?_
    walk_at "ws"
    refine rd_le ⟨_, rfl, ifd (fun h1 => ?_) fun h1 => ?_⟩
    · walk_at "ws"
      exact if_pos h1
    · exact if_neg h1
  · rw [fm_filter (fun r : Rc => r.day ≤ day)]
    refine ⟨_, rcD, rk3, rfl, fun z _ => ⟨by simp [rk3], fun B H0 => ?_⟩, ?_⟩
    · walk_at "ws"
      refine rd_ixT (d := .int z.day) rfl ?_
      walk_at "ws"
      refine rd_ixT (d := .int z.h) rfl ?_
      walk_at "ws"
      refine rd_ixT (d := .int z.n) rfl ?_
      walk_at "ws"
      exact ⟨line_of (by simp), rfl⟩
    · have lz : (srtR (rs.filter fun r => decide (r.day ≤ day))).reverse.length ≤ 100 := by
        unfold srtR
        rw [List.length_reverse, List.length_mergeSort]
        exact Nat.le_trans (List.length_filter_le _ _) hz
      have l2 : ∀ done : List Rc, (lvAt done).2.length ≤ done.length := fun done => by
        have key : ∀ (done : List Rc) (st : List Rc × List (Int × Int)), (done.foldl lvStep st).2.length ≤ st.2.length + done.length := fun done => by
          induction done with
          | nil => intro st; exact Nat.le_refl _
          | cons x xs ih =>
            intro st
            have h := ih (lvStep st x)
            have h2 : (lvStep st x).2.length ≤ st.2.length + 1 := by
              unfold lvStep
              split
              · omega
              · dsimp only
                split <;> simp
            rw [List.foldl_cons, List.length_cons]
            omega
        have := key done ([], [])
        simpa [lvAt] using this
      refine ⟨_, rfl, _, rfl, by rw [List.map_reverse]; rfl, ⟨.no, rfl, rfl⟩, ?_, ?_⟩
      · rintro zp z zq ρ' ez ⟨s, hs, rfl⟩
        have lp : zp.length ≤ 100 := by
          rw [ez, List.length_append] at lz
          omega
        have lv := lvAt_len zp
        have lw := l2 zp
        refine ws_if (wt_borrow 3 rfl ?_)
        walk_at "ws"
        refine rs_tup ?_
        walk_at "ws"
        refine rd_notIn 1 (x := iD [z.h, z.n]) ok_iD ok_goneL ?_
        rw [gone_in]
        refine ⟨_, rfl, ifnd (fun hn => ?_) fun hm => ?_⟩
        · refine ws_seq (ws_app (i := 2) rfl (by rw [List.length_map]; omega) ?_)
          walk_at "w"
          refine ws_ext (i := 3) rfl ?_
          walk_at "ws"
          refine rd_ixT (d := ddD z.deed) rfl ?_
          walk_at "ws"
          cases hd : z.deed with
          | undo a b =>
            have e : lvAt (zp ++ [z]) = ((lvAt zp).1 ++ [z], (lvAt zp).2 ++ [(a, b)]) := by
              rw [lvAt_snoc]
              unfold lvStep
              rw [if_neg hn, hd]
            refine rd_ixT (d := .str "undo") rfl ?_
            walk_at "ws"
            refine rd_eqSS (by decide +kernel) (by decide +kernel) ⟨_, rfl, ift ?_⟩
            refine (wn_lst ?_).e
            walk_at "ws"
            refine rd_ixT (d := ddD z.deed) rfl ?_
            rw [hd]
            walk_at "ws"
            refine rs_tup ?_
            walk_at "ws"
            refine ⟨line_of (by simp), _, rfl, by rw [List.length_map]; simp; omega, .d (rcD z), rfl, ?_⟩
            rw [e, List.map_append, List.map_append]
            rfl
          | add en =>
            have e : lvAt (zp ++ [z]) = ((lvAt zp).1 ++ [z], (lvAt zp).2) := by
              rw [lvAt_snoc]
              unfold lvStep
              rw [if_neg hn, hd]
            refine rd_ixT (d := .str "add") rfl ?_
            walk_at "ws"
            refine rd_eqSS (by decide +kernel) (by decide +kernel) ⟨_, rfl, iff_ ?_⟩
            refine (wn_lst ?_).e
            walk_at "ws"
            refine ⟨Nat.zero_le _, _, rfl, by rw [List.length_map]; simp; omega, .d (rcD z), rfl, ?_⟩
            rw [e, List.map_append, List.append_nil]
            rfl
          | drop en =>
            have e : lvAt (zp ++ [z]) = ((lvAt zp).1 ++ [z], (lvAt zp).2) := by
              rw [lvAt_snoc]
              unfold lvStep
              rw [if_neg hn, hd]
            refine rd_ixT (d := .str "drop") rfl ?_
            walk_at "ws"
            refine rd_eqSS (by decide +kernel) (by decide +kernel) ⟨_, rfl, iff_ ?_⟩
            refine (wn_lst ?_).e
            walk_at "ws"
            refine ⟨Nat.zero_le _, _, rfl, by rw [List.length_map]; simp; omega, .d (rcD z), rfl, ?_⟩
            rw [e, List.map_append, List.append_nil]
            rfl
        · have e : lvAt (zp ++ [z]) = lvAt zp := by
            rw [lvAt_snoc]
            unfold lvStep
            rw [if_pos hm]
          walk_at "w"
          refine ⟨.d (rcD z), rfl, ?_⟩
          rw [e]
          rfl
      · rintro ρ' ⟨s, hs, rfl⟩
        refine ws_release 2 rfl ?_
        iterate 2 walk_at "w"
        refine wa_cons (wn_rev ?_).e
        walk_at "ws"
        have e : ((lvAt (srtR (rs.filter fun r => decide (r.day ≤ day))).reverse).1.map rcD).reverse = (liveR rs day).map rcD := by
          unfold liveR lvAt
          rw [List.map_reverse]
        rw [e]
        exact rc_tupL q
end
end

section
set_option Elab.async false
set_option autoImplicit false
set_option linter.all false
set_option maxRecDepth 100000
set_option maxHeartbeats 4000000
open PySem PySem.Spec PyProof.Rows L2
section
variable {G : Gx} {B : Addr → Prop} {H : Hp}
theorem behind_en {es : List En} {d : Dd} (h : ∀ e ∈ es, EnOk e) (hd : DdEn d) : (∀ e ∈ behind es d, EnOk e) ∧ (behind es d).length ≤ es.length + 1 := by
  cases d with
  | undo a b => exact ⟨h, by show es.length ≤ _; omega⟩
  | drop e => exact ⟨fun x hx => h x (List.mem_filter.mp hx).1, by have := List.length_filter_le (fun o => decide (o ≠ e)) es; show (es.filter _).length ≤ _; omega⟩
  | add e =>
    by_cases hn : ∃ o ∈ es, clash o e
    · rw [show Sw.behind es (.add e) = es from if_pos hn]
      exact ⟨h, by omega⟩
    · rw [show Sw.behind es (.add e) = es ++ [e] from if_neg hn]
      refine ⟨fun x hx => ?_, by rw [List.length_append]; simp⟩
      rcases List.mem_append.mp hx with hx | hx
      · exact h x hx
      · have : x = e := by simpa using hx
        subst this
        exact hd
theorem fold_en : ∀ {ls : List Rc} {es : List En}, (∀ e ∈ es, EnOk e) → (∀ r ∈ ls, DdEn r.deed) → (∀ e ∈ ls.foldl (fun acc r => behind acc r.deed) es, EnOk e) ∧ (ls.foldl (fun acc r => behind acc r.deed) es).length ≤ es.length + ls.length
  | [], es, h, _ => ⟨h, Nat.le_refl _⟩
  | r :: ls, es, h, hl => by
    obtain ⟨b1, b2⟩ := behind_en h (hl r (by simp))
    obtain ⟨c1, c2⟩ := fold_en b1 fun r hr => hl r (List.mem_cons_of_mem _ hr)
    rw [List.foldl_cons, List.length_cons]
    exact ⟨c1, by omega⟩
open Classical in
noncomputable def clO (e x : En) : Option D := if clash x e then some (.int 1) else none
open Classical in
theorem clO_eq {e : En} {es : List En} : eqD (.lst (es.filterMap (clO e))) (.lst []) = decide (¬ ∃ o ∈ es, clash o e) := by
  have ef : es.filterMap (clO e) = (es.filter fun o => decide (clash o e)).map fun _ => D.int 1 := fm_filter (fun o => clash o e) (fun _ => D.int 1) es
  rw [ef]
  have okx : okD 1 (.lst ((es.filter fun o => decide (clash o e)).map fun _ => D.int 1)) = true := ok_lst (ok_map fun _ _ => ok_int)
  have oky : okD 1 (.lst []) = true := ok_lst (by simp)
  by_cases h : ∃ o ∈ es, clash o e
  · rw [decide_eq_false (fun z => z h)]
    refine eqD_false okx oky fun z => ?_
    injection z with z
    have z2 := List.map_eq_nil_iff.mp z
    obtain ⟨o, ho, hc⟩ := h
    have hm : o ∈ es.filter fun o => decide (clash o e) := List.mem_filter.mpr ⟨ho, decide_eq_true hc⟩
    rw [z2] at hm
    cases hm
  · rw [decide_eq_true h]
    have e0 : (es.filter fun o => decide (clash o e)) = [] := List.filter_eq_nil_iff.mpr fun o ho hc => h ⟨o, ho, of_decide_eq_true hc⟩
    rw [e0]
    exact eqD_same oky
theorem flat_enD (e : En) : flatD (enD e) = true := by
  have h : ∀ p : List Str, flatDs (p.map D.str) = true := fun p => flatDs_map fun _ _ => by simp [flatD]
  have h2 : flatDs (e.ps.map pD) = true := flatDs_map fun p _ => by simp [flatD, h]
  simp [flatD, flatDs, h, h2]
theorem law_entries_on (ds : List D) (Q : D → Prop) (hl : ds.length = 3) (h : F__law_entries_on ds Q) : WS ⟨G, B, H⟩ (t__law_entries_on G) (ent 8 ds) { nx := fun _ => Q .non, rt := Q } := by
  obtain ⟨es, rs, day, bases, cons, rfl, hz, he, hr, q⟩ := h
  have hll := liveR_len rs day
  unfold t__law_entries_on
  refine ws_seq (ws_asgN (wn_cb ?_))
  walk_at "ws"
  refine rcn_lst rfl fun p0 => ?_
  refine ws_seq (ws_for1 rcD (liveR rs day) (fun done ρ => ∃ p a b c, (a.ads = [] ∧ b.ads = [] ∧ c.ads = []) ∧ ρ = [.d (esD es), .d (.tup (rs.map rcD)), .d (.int day), .own p (.lst ((done.foldl (fun acc r => behind acc r.deed) es).map enD)), a, b, c, .no]) (wi_seq ?_))
  walk_at "ws"
  refine ⟨rfl, rs, day, rfl, by omega, _, rfl, rfl, ⟨p0, _, _, _, ⟨rfl, rfl, rfl⟩, rfl⟩, ?_, ?_⟩
  · rintro zp z zq ρ' ez ⟨p, a, b, c, ⟨ha, hb, hc⟩, rfl⟩
    have hzr : z ∈ rs := liveR_mem (by rw [ez]; simp)
    have hzd := (hr z hzr).deed.en
    have lz : zp.length + 1 ≤ (liveR rs day).length := by
      rw [ez, List.length_append, List.length_cons]
      omega
    obtain ⟨eo, el⟩ := fold_en (ls := zp) he fun r h => (hr r (liveR_mem (by rw [ez]; exact List.mem_append_left _ h))).deed.en
    have e : (zp ++ [z]).foldl (fun acc r => behind acc r.deed) es = behind (zp.foldl (fun acc r => behind acc r.deed) es) z.deed := by
      rw [List.foldl_append, List.foldl_cons, List.foldl_nil]
    rw [e]
    generalize zp.foldl (fun acc r => behind acc r.deed) es = acc at eo el
    walk_at "ws"
    refine rd_ixT (d := ddD z.deed) rfl ?_
    walk_at "ws"
    cases hd : z.deed with
    | undo i j =>
      refine rs_tup ?_
      refine ⟨.str "undo", .int i, rfl, ?_⟩
      walk_at "ws"
      refine rd_eqSS (by decide +kernel) (by decide +kernel) ⟨_, rfl, iff_ ?_⟩
      walk_at "ws"
      refine rd_eqSS (by decide +kernel) (by decide +kernel) ⟨_, rfl, iff_ (iff_ ?_)⟩
      walk_at "w"
      exact ⟨p, _, _, _, ⟨rfl, rfl, rfl⟩, rfl⟩
    | drop en =>
      rw [hd] at hzd
      refine rs_tup ?_
      refine ⟨.str "drop", enD en, rfl, ?_⟩
      walk_at "ws"
      refine rd_eqSS (by decide +kernel) (by decide +kernel) ⟨_, rfl, ift ?_⟩
      refine ws_asgN (wn_borrow 3 rfl (wn_lc1 (α := En) (j := 7) ⟨_, rfl, rfl⟩ (wi_seq ?_)))
      walk_at "ws"
      refine ⟨acc, enD, fun o => if o ≠ en then some (enD o) else none, rfl, fun o ho p2 => ?_, ?_⟩
      · walk_at "ws"
        refine rd_ne 3 (ok_enD (n := 0) (eo o ho)) (ok_enD (n := 0) hzd) ⟨_, rfl, ?_⟩
        by_cases e1 : o = en
        · subst e1
          rw [eqD_same (ok_enD (n := 0) hzd)]
          refine iff_ ?_
          simp
        · rw [eqD_false (ok_enD (n := 0) (eo o ho)) (ok_enD (n := 0) hzd) (fun z => e1 (enD_inj z))]
          refine ift ?_
          walk_at "ws"
          simp [e1]
      · rw [fm_filter (fun o => o ≠ en)]
        refine ⟨flatDs_map fun x _ => flat_enD x, fun p2 => ⟨p2, _, _, _, ⟨rfl, rfl, rfl⟩, rfl⟩⟩
    | add en =>
      rw [hd] at hzd
      refine rs_tup ?_
      refine ⟨.str "add", enD en, rfl, ?_⟩
      walk_at "ws"
      refine rd_eqSS (by decide +kernel) (by decide +kernel) ⟨_, rfl, iff_ ?_⟩
      walk_at "ws"
      refine rd_eqSS (by decide +kernel) (by decide +kernel) ⟨_, rfl, ift ?_⟩
      refine wt_borrow 3 rfl ?_
      iterate 2 walk_at "w"
      refine (wn_lc1 (α := En) (j := 7) ⟨_, rfl, rfl⟩ (wi_seq ?_)).e
      walk_at "ws"
      refine ⟨acc, enD, clO en, rfl, fun o ho p2 => ?_, ?_⟩
      · walk_at "ws"
        refine rd_eq 3 (ok_enD (n := 0) (eo o ho)) (ok_enD (n := 0) hzd) ⟨_, rfl, ?_⟩
        by_cases e1 : o = en
        · subst e1
          rw [eqD_same (ok_enD (n := 0) hzd)]
          refine ift ?_
          refine ift ?_
          walk_at "ws"
          exact if_pos (clash_refl o)
        · rw [eqD_false (ok_enD (n := 0) (eo o ho)) (ok_enD (n := 0) hzd) (fun z => e1 (enD_inj z))]
          refine iff_ ?_
          walk_at "ws"
          refine ⟨rfl, o, en, rfl, eo o ho, hzd, fun c hc => ⟨_, rfl, ifb (fun h => ?_) fun h => ?_⟩⟩
          · walk_at "ws"
            exact if_pos (hc.mp h)
          · refine if_neg fun h2 => ?_
            rw [hc.mpr h2] at h
            cases h
      · refine (wn_lst ?_).e
        walk_at "ws"
        refine ⟨Nat.zero_le _, ?_⟩
        have okx : okD 1 (.lst (acc.filterMap (clO en))) = true := by
          classical
          have ef : acc.filterMap (clO en) = (acc.filter fun o => decide (clash o en)).map fun _ => D.int 1 := by
            unfold clO
            rw [← fm_filter (fun o => clash o en) (fun _ => D.int 1) acc]
          rw [ef]
          exact ok_lst (ok_map fun _ _ => ok_int)
        refine rd_eq 1 okx (ok_lst (by simp)) ⟨_, rfl, ?_⟩
        classical
        rw [clO_eq]
        by_cases hn : ∃ o ∈ acc, clash o en
        · rw [decide_eq_false (fun z => z hn)]
          refine iff_ ?_
          walk_at "w"
          refine ⟨p, .d (rcD z), .d (.str "add"), .d (enD en), ⟨rfl, rfl, rfl⟩, ?_⟩
          rw [show Sw.behind acc (.add en) = acc from if_pos hn]
          rfl
        · rw [decide_eq_true hn]
          refine ift ?_
          refine ws_app (i := 3) rfl (by rw [List.length_map]; omega) ?_
          walk_at "ws"
          refine ⟨p, .d (rcD z), .d (.str "add"), .d (enD en), ⟨rfl, rfl, rfl⟩, ?_⟩
          rw [show Sw.behind acc (.add en) = acc ++ [en] from if_neg hn, List.map_append]
          rfl
  · rintro ρ' ⟨p, a, b, c, ⟨ha, hb, hc⟩, rfl⟩
    obtain ⟨eo, el⟩ := fold_en (ls := liveR rs day) he fun r h => (hr r (liveR_mem h)).deed.en
    refine ws_release 3 rfl ?_
    iterate 2 walk_at "w"
    refine wa_cons (wn_cb ?_).e
    walk_at "ws"
    refine rcn_srtE rfl eo ?_
    walk_at "ws"
    exact rc_tupL q
end
end

section
set_option Elab.async false
set_option autoImplicit false
set_option linter.all false
set_option maxRecDepth 100000
set_option maxHeartbeats 4000000
open PySem PySem.Spec PyProof.Rows L2
def tMeetTurn (G : Gx) : TS :=
    (tSeq (tPar 6 7 (tCons (tSl (rSlU G.K) (tVar 4) tNoPart (tPart (tUn (rU fun i => .int (-i)) (tC (.int 1))))) (tCons (tSl (rSlU G.K) (tVar 5) tNoPart (tPart (tUn (rU fun i => .int (-i)) (tC (.int 1))))) tNil)))
    (tIfS (tAnd (tTest (tOp (rNeD G.K) (tOp (rIx G.K) (tVar 4) (tUn (rU fun i => .int (-i)) (tC (.int 1)))) (tC (.str "T")))) (tTest (tOp (rNeD G.K) (tOp (rIx G.K) (tVar 5) (tUn (rU fun i => .int (-i)) (tC (.int 1)))) (tC (.str "T"))))) (tIfS (tTest (tOp (rNeD G.K) (tVar 4) (tVar 5))) (tRet (tC (.bl false))) tNext) (tIfS (tAnd (tTest (tOp (rEqD G.K) (tOp (rIx G.K) (tVar 4) (tUn (rU fun i => .int (-i)) (tC (.int 1)))) (tC (.str "T")))) (tTest (tOp (rEqD G.K) (tOp (rIx G.K) (tVar 5) (tUn (rU fun i => .int (-i)) (tC (.int 1)))) (tC (.str "T"))))) (tSeq (tAsg (tCB (rMinU) (tCons (tCB (rLenU G.K) (tCons (tVar 6) tNil)) (tCons (tCB (rLenU G.K) (tCons (tVar 7) tNil)) tNil))) (gName 8))
    (tSeq (tIfS (tTest (tOp (rNeD G.K) (tSl (rSlU G.K) (tVar 6) tNoPart (tPart (tVar 8))) (tSl (rSlU G.K) (tVar 7) tNoPart (tPart (tVar 8))))) (tRet (tC (.bl false))) tNext)
    (tDrop (tBM G.K "list" rAppend (tDGet (tVar 3) (tCB (rIntU) (tCons (tOp rGtU (tCB (rLenU G.K) (tCons (tVar 6) tNil)) (tCB (rLenU G.K) (tCons (tVar 7) tNil))) tNil))) (tCons (tSl (rSlU G.K) (tIf (tTest (tOp rLeU (tCB (rLenU G.K) (tCons (tVar 6) tNil)) (tCB (rLenU G.K) (tCons (tVar 7) tNil)))) (tVar 7) (tVar 6)) (tPart (tVar 8)) tNoPart) tNil))))) (tSeq (tAsg (tCB (rIntU) (tCons (tOp (rNeD G.K) (tOp (rIx G.K) (tVar 4) (tUn (rU fun i => .int (-i)) (tC (.int 1)))) (tC (.str "T"))) tNil)) (gName 9))
    (tSeq (tAsg (tIf (tTest (tOp (rEqD G.K) (tVar 9) (tC (.int 0)))) (tTup (tCons (tVar 6) (tCons (tVar 5) tNil))) (tTup (tCons (tVar 7) (tCons (tVar 4) tNil)))) (gTup G.K 2 (gCons (gName 10) (gCons (gName 11) gNil))))
    (tSeq (tIfS (tOr (tTest (tOp rLeU (tCB (rLenU G.K) (tCons (tVar 11) tNil)) (tCB (rLenU G.K) (tCons (tVar 10) tNil)))) (tTest (tOp (rNeD G.K) (tSl (rSlU G.K) (tVar 11) tNoPart (tPart (tCB (rLenU G.K) (tCons (tVar 10) tNil)))) (tVar 10)))) (tRet (tC (.bl false))) tNext)
    (tDrop (tBM G.K "list" rAppend (tDGet (tVar 2) (tVar 9)) (tCons (tSl (rSlU G.K) (tVar 11) (tPart (tCB (rLenU G.K) (tCons (tVar 10) tNil))) tNoPart) tNil)))))))))
def tMeetRest (G : Gx) : TS :=
    (tSeq (tIfS (tTest (tOp (rNeD G.K) (tLc (iSeq G.K (tTup (tCons (tC (.int 0)) (tCons (tC (.int 1)) tNil)))) (gName 9) (tOr (tTest (tOp rGtU (tLenSet G.K (tDGet (tVar 3) (tVar 9))) (tC (.int 1)))) (tTest (tOp rGtU (tLenSet G.K (tDGet (tVar 2) (tVar 9))) (tC (.int 1))))) (tC (.int 1)) [9]) (tLst tNil))) (tRet (tC (.bl false))) tNext)
    (tSeq (tIfS (tAnd (tTest (tOp (rNeD G.K) (tDGet (tVar 3) (tC (.int 0))) (tLst tNil))) (tAnd (tTest (tOp (rNeD G.K) (tDGet (tVar 3) (tC (.int 1))) (tLst tNil))) (tOr (tTest (tOp (rNeD G.K) (tOp (rIx G.K) (tDGet (tVar 3) (tC (.int 0))) (tC (.int 0))) (tTup tNil))) (tTest (tOp (rNeD G.K) (tOp (rIx G.K) (tDGet (tVar 3) (tC (.int 1))) (tC (.int 0))) (tTup tNil)))))) (tRet (tC (.bl false))) tNext)
    (tSeq (tFor (iSeq G.K (tTup (tCons (tC (.int 0)) (tCons (tC (.int 1)) tNil)))) (gName 9) (tFor (iSeq G.K (tSl (rSlU G.K) (tDGet (tVar 3) (tVar 9)) tNoPart (tPart (tC (.int 1))))) (gName 12) (tSeq (tIfS (tAnd (tTest (tOp (rNeD G.K) (tDGet (tVar 2) (tOp rSubU (tC (.int 1)) (tVar 9))) (tLst tNil))) (tAnd (tTest (tOp (rNeD G.K) (tDGet (tVar 2) (tVar 9)) (tLst tNil))) (tTest (tOp (rNeD G.K) (tOp (rIx G.K) (tDGet (tVar 2) (tVar 9)) (tC (.int 0))) (tOp (rAddU G.K) (tVar 12) (tOp (rIx G.K) (tDGet (tVar 2) (tOp rSubU (tC (.int 1)) (tVar 9))) (tC (.int 0)))))))) (tRet (tC (.bl false))) tNext)
    (tIfS (tAnd (tTest (tOp (rNeD G.K) (tDGet (tVar 2) (tVar 9)) (tLst tNil))) (tOr (tTest (tOp (rNeD G.K) (tSl (rSlU G.K) (tOp (rIx G.K) (tDGet (tVar 2) (tVar 9)) (tC (.int 0))) tNoPart (tPart (tCB (rLenU G.K) (tCons (tVar 12) tNil)))) (tVar 12))) (tTest (tOp rLeU (tCB (rLenU G.K) (tCons (tOp (rIx G.K) (tDGet (tVar 2) (tVar 9)) (tC (.int 0))) tNil)) (tCB (rLenU G.K) (tCons (tVar 12) tNil)))))) (tRet (tC (.bl false))) tNext))))
    (tRet (tC (.bl true))))))
theorem t_meet_eq (G : Gx) : t__law_do_meet G = tSeq (tAsg (tTup (tCons (tDisp (((tC (.int 0)), (tLst tNil)) :: (((tC (.int 1)), (tLst tNil)) :: []))) (tCons (tDisp (((tC (.int 0)), (tLst tNil)) :: (((tC (.int 1)), (tLst tNil)) :: []))) tNil))) (gTup G.K 2 (gCons (gName 2) (gCons (gName 3) gNil))))
    (tSeq (tFor (iZipK G.K (tCons (tVar 0) (tCons (tVar 1) tNil))) (gTup G.K 2 (gCons (gName 4) (gCons (gName 5) gNil))) (tMeetTurn G)) (tMeetRest G)) := rfl
section
variable {G : Gx}
theorem eqD_pD {p q : Pt} (hp : ∀ x ∈ p, sOk x) (hq : ∀ x ∈ q, sOk x) : eqD (pD p) (pD q) = decide (p = q) := by
  by_cases e : p = q
  · rw [decide_eq_true e, e]
    exact eqD_same (ok_pD (n := 0) hq)
  · rw [decide_eq_false e]
    exact eqD_false (ok_pD (n := 0) hp) (ok_pD (n := 0) hq) fun z => e (pD_inj z)
theorem rd_nePP {p q : Pt} {Q : D → Prop} (hp : ∀ x ∈ p, sOk x) (hq : ∀ x ∈ q, sOk x) (h : Q (.bl (!decide (p = q)))) : RD G (rNeD G.K) (pD p) (pD q) Q := rd_ne 1 (ok_pD hp) (ok_pD hq) (by rw [eqD_pD hp hq]; exact h)
theorem sOk_drop {r : Pt} {n : Nat} (h : ∀ x ∈ r, sOk x) : ∀ x ∈ r.drop n, sOk x := fun x hx => h x (List.mem_of_mem_drop hx)
theorem len_drop {r : Pt} {n k : Nat} (h : r.length ≤ k) : (r.drop n).length ≤ k := by rw [List.length_drop]; omega
theorem sOk_take {r : Pt} {n : Nat} (h : ∀ x ∈ r, sOk x) : ∀ x ∈ r.take n, sOk x := fun x hx => h x (List.mem_of_mem_take hx)
theorem sOk_init {r : Pt} (h : ∀ x ∈ r, sOk x) : ∀ x ∈ r.dropLast, sOk x := fun x hx => h x (List.dropLast_subset r hx)
theorem cutP_drop {p : Pt} {n : Nat} : cutD (p.map D.str) (some (n : Int)) none = (p.drop n).map D.str := by rw [cutD_map, cutD_drop]
theorem cutP_take {p : Pt} {n : Nat} : cutD (p.map D.str) none (some (n : Int)) = (p.take n).map D.str := by rw [cutD_map, cutD_take]
end
/-- a list is the same, or longer by one that is right -/
def Ad (P : Pt → Prop) (xs ys : List Pt) : Prop := ys = xs ∨ ∃ x, ys = xs ++ [x] ∧ P x
structure Gw (m m' : Mt) : Prop where
  a : Ad (fun f => f ≠ [] ∧ f.length ≤ 100 ∧ ∀ x ∈ f, sOk x) m.f0 m'.f0
  b : Ad (fun f => f ≠ [] ∧ f.length ≤ 100 ∧ ∀ x ∈ f, sOk x) m.f1 m'.f1
  c : Ad (fun f => f.length ≤ 100 ∧ ∀ x ∈ f, sOk x) m.l0 m'.l0
  d : Ad (fun f => f.length ≤ 100 ∧ ∀ x ∈ f, sOk x) m.l1 m'.l1
theorem Gw.same (m : Mt) : Gw m m := ⟨.inl rfl, .inl rfl, .inl rfl, .inl rfl⟩
section
variable {S : Sc}

theorem meet_turn {E : DE} {p r : Pt} (op : PtOk p) (or_ : PtOk r) {X Y : D} {m : Mt} {a a0 a1 b b0 b1 : Addr} {s6 s7 s8 s9 s10 s11 s12 : Sl} (hs9 : s9.ads = []) (z0 : m.f0.length < 1000) (z1 : m.f1.length < 1000) (z2 : m.l0.length < 1000) (z3 : m.l1.length < 1000)
    (no : (∀ t u : Pt, t ≠ [] → u ≠ [] → fill t p ≠ fill u r) → E.rt (.bl false))
    (yes : ∀ m' t6 t7 t8 t9 t10 t11 t12, t9.ads = [] → (∀ t u : Pt, t ≠ [] → u ≠ [] → (m'.holds t u ↔ m.holds t u ∧ fill t p = fill u r)) → Gw m m' →
      E.nx [.d X, .d Y, .own a (dL2 a0 a1 (m'.f0.map pD) (m'.f1.map pD)), .own b (dL2 b0 b1 (m'.l0.map pD) (m'.l1.map pD)), .d (pD p), .d (pD r), t6, t7, t8, t9, t10, t11, t12]) :
    WS S (tMeetTurn S.G) [.d X, .d Y, .own a (dL2 a0 a1 (m.f0.map pD) (m.f1.map pD)), .own b (dL2 b0 b1 (m.l0.map pD) (m.l1.map pD)), .d (pD p), .d (pD r), s6, s7, s8, s9, s10, s11, s12] E := by
  have eT := hT_dec op.ne
  have rT := hT_dec or_.ne
  have oa := sOk_init op.ok
  have ob := sOk_init or_.ok
  have la : p.dropLast.length ≤ 100 := by rw [List.length_dropLast]; have := op.short; omega
  have lb : r.dropLast.length ≤ 100 := by rw [List.length_dropLast]; have := or_.short; omega
  unfold tMeetTurn
  refine ws_seq ?_
  walk_at "ws"
  refine rs_tup ?_
  walk_at "ws"
  refine rs_tup ?_
  rw [dropLast_cut, dropLast_cut]
  walk_at "ws"
  refine rd_ixT (d := .str (p.getLast op.ne)) (atI_pD op.ne) ?_
  walk_at "ws"
  refine rd_neSS (op.ok _ (List.getLast_mem op.ne)) sOk_T ⟨_, rfl, ?_⟩
  refine ifnd (fun h1 => ?_) fun h1 => iff_ ?_
  · rw [decide_eq_false h1] at eT
    walk_at "ws"
    refine rd_ixT (d := .str (r.getLast or_.ne)) (atI_pD or_.ne) ?_
    walk_at "ws"
    refine rd_neSS (or_.ok _ (List.getLast_mem or_.ne)) sOk_T ⟨_, rfl, ifnd (fun h2 => ?_) fun h2 => ?_⟩
    · rw [decide_eq_false h2] at rT
      walk_at "ws"
      refine rd_nePP op.ok or_.ok ⟨_, rfl, ifnd (fun ne => ?_) fun e => ?_⟩
      · walk_at "ws"
        exact no fun t u _ _ => by rw [fill_no eT, fill_no rT]; exact ne
      · walk_at "ws"
        refine yes m _ _ _ _ _ _ _ hs9 (fun t u _ _ => ?_) (.same m)
        rw [fill_no eT, fill_no rT]
        exact ⟨fun h => ⟨h, e⟩, fun h => h.1⟩
    · rw [decide_eq_true h2] at rT
      walk_at "ws"
      refine rd_ixT (d := .str (p.getLast op.ne)) (atI_pD op.ne) ?_
      walk_at "ws"
      refine rd_eqSS (op.ok _ (List.getLast_mem op.ne)) sOk_T ⟨_, rfl, ?_⟩
      rw [decide_eq_false h1]
      refine iff_ (iff_ ?_)
      walk_at "ws"
      refine rd_ixT (d := .str (p.getLast op.ne)) (atI_pD op.ne) ?_
      walk_at "ws"
      refine rd_neSS (op.ok _ (List.getLast_mem op.ne)) sOk_T ?_
      rw [decide_eq_false h1]
      walk_at "ws"
      refine rc_intB ?_
      walk_at "ws"
      refine rd_eqII ⟨_, rfl, iff_ ?_⟩
      walk_at "ws"
      refine ⟨line_of (by simp), ?_⟩
      walk_at "ws"
      refine rc_lenT ?_
      walk_at "ws"
      refine rc_lenT ?_
      rw [List.length_map, List.length_map]
      refine rd_le ⟨_, rfl, ifd (fun hle => ift ?_) fun hle => ?_⟩
      · walk_at "ws"
        exact no fun t u ht hu => by
          rw [fill_no eT, fill_T rT]
          exact Ne.symm (one_no hu (.inl (by omega)))
      · walk_at "ws"
        refine rc_lenT ?_
        rw [List.length_map]
        walk_at "ws"
        refine rs_tup ?_
        rw [cutP_take]
        walk_at "ws"
        refine rd_nePP (sOk_take op.ok) ob ⟨_, rfl, ifnd (fun hne => ?_) fun heq => ?_⟩
        · walk_at "ws"
          exact no fun t u ht hu => by
            rw [fill_no eT, fill_T rT]
            exact Ne.symm (one_no hu (.inr hne))
        · walk_at "w"
          refine ws_appD (i := 2) rfl (by rw [List.length_map]; exact z0) (by rw [List.length_map]; exact z1) ?_
          walk_at "ws"
          refine .inr ⟨rfl, ?_⟩
          walk_at "ws"
          refine rc_lenT ?_
          rw [List.length_map]
          walk_at "ws"
          refine rs_tup ?_
          rw [cutP_drop]
          have z := yes { m with f1 := m.f1 ++ [p.drop r.dropLast.length] } (.d (pD p.dropLast)) (.d (pD r.dropLast)) s8 (.d (.int 1)) (.d (pD r.dropLast)) (.d (pD p)) s12 rfl (fun t u ht hu => by
            rw [Mt.add_f1, fill_no eT, fill_T rT]
            exact and_congr_right fun _ => (eq_comm.trans (one_T (by omega) heq)).symm) ⟨.inl rfl, .inr ⟨_, rfl, (fun e => hle (by have := congrArg List.length e; rw [List.length_drop, List.length_nil] at this; omega)), len_drop op.short, sOk_drop op.ok⟩, .inl rfl, .inl rfl⟩
          rw [List.map_append] at z
          exact z
  · rw [decide_eq_true h1] at eT
    walk_at "ws"
    refine rd_ixT (d := .str (p.getLast op.ne)) (atI_pD op.ne) ?_
    walk_at "ws"
    refine rd_eqSS (op.ok _ (List.getLast_mem op.ne)) sOk_T ⟨_, rfl, ?_⟩
    rw [decide_eq_true h1]
    refine ift ?_
    walk_at "ws"
    refine rd_ixT (d := .str (r.getLast or_.ne)) (atI_pD or_.ne) ?_
    walk_at "ws"
    refine rd_eqSS (or_.ok _ (List.getLast_mem or_.ne)) sOk_T ⟨_, rfl, ifd (fun h2 => ?_) fun h2 => ?_⟩
    · rw [decide_eq_true h2] at rT
      walk_at "ws"
      refine rc_lenT ?_
      walk_at "ws"
      refine rc_lenT ?_
      rw [List.length_map, List.length_map]
      walk_at "ws"
      refine rc_min ?_
      have em : (if ((r.dropLast.length : Nat) : Int) < ((p.dropLast.length : Nat) : Int) then ((r.dropLast.length : Nat) : Int) else ((p.dropLast.length : Nat) : Int)) = ((min p.dropLast.length r.dropLast.length : Nat) : Int) := by
        split <;> omega
      rw [em]
      walk_at "ws"
      refine rs_tup ?_
      rw [cutP_take]
      walk_at "ws"
      refine rs_tup ?_
      rw [cutP_take]
      refine rd_nePP (sOk_take oa) (sOk_take ob) ⟨_, rfl, ifnd (fun hne => ?_) fun heq => ?_⟩
      · walk_at "ws"
        exact no fun t u _ _ => by rw [fill_T eT, fill_T rT]; exact both_no hne
      · walk_at "w"
        refine ws_appD (i := 3) rfl (by rw [List.length_map]; exact z2) (by rw [List.length_map]; exact z3) ?_
        walk_at "ws"
        refine rc_lenT ?_
        walk_at "ws"
        refine rc_lenT ?_
        rw [List.length_map, List.length_map]
        refine rd_gt ?_
        walk_at "ws"
        refine rc_intB ?_
        by_cases hl : p.dropLast.length ≤ r.dropLast.length
        · refine .inl ⟨by rw [decide_eq_false (by omega)]; rfl, ?_⟩
          walk_at "ws"
          refine rc_lenT ?_
          walk_at "ws"
          refine rc_lenT ?_
          rw [List.length_map, List.length_map]
          refine rd_le ⟨_, rfl, ?_⟩
          rw [decide_eq_true (by omega)]
          refine ift ?_
          walk_at "ws"
          refine rs_tup ?_
          rw [cutP_drop]
          have z := yes { m with l0 := m.l0 ++ [r.dropLast.drop (min p.dropLast.length r.dropLast.length)] } (.d (pD p.dropLast)) (.d (pD r.dropLast)) (.d (.int ((min p.dropLast.length r.dropLast.length : Nat) : Int))) s9 s10 s11 s12 hs9 (fun t u ht hu => by
            rw [Mt.add_l0, fill_T eT, fill_T rT]
            have k := both_T (t := t) (u := u) heq
            rw [if_pos hl] at k
            exact and_congr_right fun _ => k.symm) ⟨.inl rfl, .inl rfl, .inr ⟨_, rfl, len_drop lb, sOk_drop ob⟩, .inl rfl⟩
          rw [List.map_append] at z
          exact z
        · refine .inr ⟨by rw [decide_eq_true (by omega)]; rfl, ?_⟩
          walk_at "ws"
          refine rc_lenT ?_
          walk_at "ws"
          refine rc_lenT ?_
          rw [List.length_map, List.length_map]
          refine rd_le ⟨_, rfl, ?_⟩
          rw [decide_eq_false (by omega)]
          refine iff_ ?_
          walk_at "ws"
          refine rs_tup ?_
          rw [cutP_drop]
          have z := yes { m with l1 := m.l1 ++ [p.dropLast.drop (min p.dropLast.length r.dropLast.length)] } (.d (pD p.dropLast)) (.d (pD r.dropLast)) (.d (.int ((min p.dropLast.length r.dropLast.length : Nat) : Int))) s9 s10 s11 s12 hs9 (fun t u ht hu => by
            rw [Mt.add_l1, fill_T eT, fill_T rT]
            have k := both_T (t := t) (u := u) heq
            rw [if_neg hl] at k
            exact and_congr_right fun _ => k.symm) ⟨.inl rfl, .inl rfl, .inl rfl, .inr ⟨_, rfl, len_drop la, sOk_drop oa⟩⟩
          rw [List.map_append] at z
          exact z
    · rw [decide_eq_false h2] at rT
      walk_at "ws"
      refine rd_ixT (d := .str (p.getLast op.ne)) (atI_pD op.ne) ?_
      walk_at "ws"
      refine rd_neSS (op.ok _ (List.getLast_mem op.ne)) sOk_T ?_
      rw [decide_eq_true h1]
      walk_at "ws"
      refine rc_intB ?_
      walk_at "ws"
      refine rd_eqII ⟨_, rfl, ift ?_⟩
      walk_at "ws"
      refine ⟨line_of (by simp), ?_⟩
      walk_at "ws"
      refine rc_lenT ?_
      walk_at "ws"
      refine rc_lenT ?_
      rw [List.length_map, List.length_map]
      refine rd_le ⟨_, rfl, ifd (fun hle => ift ?_) fun hle => ?_⟩
      · walk_at "ws"
        exact no fun t u ht hu => by
          rw [fill_T eT, fill_no rT]
          exact one_no ht (.inl (by omega))
      · walk_at "ws"
        refine rc_lenT ?_
        rw [List.length_map]
        walk_at "ws"
        refine rs_tup ?_
        rw [cutP_take]
        walk_at "ws"
        refine rd_nePP (sOk_take or_.ok) oa ⟨_, rfl, ifnd (fun hne => ?_) fun heq => ?_⟩
        · walk_at "ws"
          exact no fun t u ht hu => by
            rw [fill_T eT, fill_no rT]
            exact one_no ht (.inr hne)
        · walk_at "w"
          refine ws_appD (i := 2) rfl (by rw [List.length_map]; exact z0) (by rw [List.length_map]; exact z1) ?_
          walk_at "ws"
          refine .inl ⟨rfl, ?_⟩
          walk_at "ws"
          refine rc_lenT ?_
          rw [List.length_map]
          walk_at "ws"
          refine rs_tup ?_
          rw [cutP_drop]
          have z := yes { m with f0 := m.f0 ++ [r.drop p.dropLast.length] } (.d (pD p.dropLast)) (.d (pD r.dropLast)) s8 (.d (.int 0)) (.d (pD p.dropLast)) (.d (pD r)) s12 rfl (fun t u ht hu => by
            rw [Mt.add_f0, fill_T eT, fill_no rT]
            exact and_congr_right fun _ => (one_T (by omega) heq).symm) ⟨.inr ⟨_, rfl, (fun e => hle (by have := congrArg List.length e; rw [List.length_drop, List.length_nil] at this; omega)), len_drop or_.short, sOk_drop or_.ok⟩, .inl rfl, .inl rfl, .inl rfl⟩
          rw [List.map_append] at z
          exact z
end
end

section
set_option Elab.async false
set_option autoImplicit false
set_option linter.all false
set_option maxRecDepth 100000
set_option maxHeartbeats 4000000
open PySem PySem.Spec PyProof.Rows L2

section
variable {G : Gx}
def wide (xs : List Pt) : Prop := ∃ k ∈ xs, ∃ k' ∈ xs, k ≠ k'
theorem same_of {xs : List Pt} (h : ¬ wide xs) : same xs := fun x hx y hy => Classical.byContradiction fun e => h ⟨x, hx, y, hy, e⟩
theorem not_same {xs : List Pt} (h : wide xs) : ¬ same xs := fun s => let ⟨x, hx, y, hy, e⟩ := h; e (s x hx y hy)
theorem ok_pts {xs : List Pt} (h : ∀ r ∈ xs, ∀ x ∈ r, sOk x) : okD 2 (.lst (xs.map pD)) = true := ok_lst (ok_map fun r hr => ok_pD (h r hr))
/-- xs != [] -/
theorem rd_some {xs : List Pt} {Q : D → Prop} (h : ∀ r ∈ xs, ∀ x ∈ r, sOk x) (k : Q (.bl (!xs.isEmpty))) : RD G (rNeD G.K) (.lst (xs.map pD)) (.lst []) Q := rd_ne 2 (ok_pts h) (ok_lst (by simp)) (by
  cases xs with
  | nil =>
    show Q (.bl (!eqD (.lst []) (.lst [])))
    rw [eqD_same (n := 1) (ok_lst (by simp))]
    exact k
  | cons x xs => rw [eqD_false (n := 2) (m := 2) (ok_pts h) (ok_lst (by simp)) (by intro z; injection z with z; cases z)]; exact k)
theorem head_at {xs : List Pt} {x : Pt} (h : xs.head? = some x) : atI (xs.map pD) 0 = some (pD x) := by
  cases xs with
  | nil => cases h
  | cons y ys =>
    cases h
    exact atI_n (n := 0) rfl
end
section
variable {S : Sc} {ρ : List Sl}
theorem wt_some {td : TE} {Q : Bool → Prop} (h : WE S td ρ fun d => ∃ xs : List Pt, d = .lst (xs.map pD) ∧ (∀ r ∈ xs, ∀ x ∈ r, sOk x) ∧ Q (!xs.isEmpty)) : WT S (tTest (tOp (rNeD S.G.K) td (tLst tNil))) ρ Q :=
  wt_test (we_op (h.mono fun d ⟨xs, e, o, q⟩ => by
    subst e
    exact (wn_lst (wa_nil ⟨Nat.zero_le _, rd_some o ⟨_, rfl, q⟩⟩)).e))
theorem we_row {i : Nat} {k : Int} {kvs : List (Key × D)} {ti : TE} {d : D} {Q : D → Prop} (hi : ρ[i]? = some (.d (.dct kvs))) (ht : WE S ti ρ fun y => y = .int k) (hv : valD kvs (.inl k) = some d) (q : Q d) : WE S (tDGet (tVar i) ti) ρ Q :=
  we_dget (we_var i hi (ht.mono fun y e => ⟨.inl k, kvs, d, e, rfl, hv, q⟩))
def tMeetSide (G : Gx) : TS := (tSeq (tIfS (tAnd (tTest (tOp (rNeD G.K) (tDGet (tVar 2) (tOp rSubU (tC (.int 1)) (tVar 9))) (tLst tNil))) (tAnd (tTest (tOp (rNeD G.K) (tDGet (tVar 2) (tVar 9)) (tLst tNil))) (tTest (tOp (rNeD G.K) (tOp (rIx G.K) (tDGet (tVar 2) (tVar 9)) (tC (.int 0))) (tOp (rAddU G.K) (tVar 12) (tOp (rIx G.K) (tDGet (tVar 2) (tOp rSubU (tC (.int 1)) (tVar 9))) (tC (.int 0)))))))) (tRet (tC (.bl false))) tNext)
    (tIfS (tAnd (tTest (tOp (rNeD G.K) (tDGet (tVar 2) (tVar 9)) (tLst tNil))) (tOr (tTest (tOp (rNeD G.K) (tSl (rSlU G.K) (tOp (rIx G.K) (tDGet (tVar 2) (tVar 9)) (tC (.int 0))) tNoPart (tPart (tCB (rLenU G.K) (tCons (tVar 12) tNil)))) (tVar 12))) (tTest (tOp rLeU (tCB (rLenU G.K) (tCons (tOp (rIx G.K) (tDGet (tVar 2) (tVar 9)) (tC (.int 0))) tNil)) (tCB (rLenU G.K) (tCons (tVar 12) tNil)))))) (tRet (tC (.bl false))) tNext))
/-- what a side's row is held against -/
def rowOk (row : Pt) (f g : List Pt) : Prop := (∀ x y, g.head? = some y → f.head? = some x → x = row ++ y) ∧ ∀ x, f.head? = some x → x.take row.length = row ∧ ¬ x.length ≤ row.length
theorem meet_side {E : DE} {k : Int} {kvs : List (Key × D)} {f g : List Pt} {row : Pt} (h2 : ρ[2]? = some (.d (.dct kvs))) (h9 : ρ[9]? = some (.d (.int k))) (h12 : ρ[12]? = some (.d (pD row))) (hk : valD kvs (.inl k) = some (.lst (f.map pD))) (hk1 : valD kvs (.inl (1 - k)) = some (.lst (g.map pD)))
    (of : ∀ r ∈ f, ∀ x ∈ r, sOk x) (og : ∀ r ∈ g, ∀ x ∈ r, sOk x) (orow : ∀ x ∈ row, sOk x) (lg : ∀ r ∈ g, r.length ≤ 100) (lrow : row.length ≤ 100) (no : ¬ rowOk row f g → E.rt (.bl false)) (yes : rowOk row f g → E.nx ρ) : WS S (tMeetSide S.G) ρ E := by
  have t9 : WE S (tVar 9) ρ fun y => y = .int k := we_var 9 h9 rfl
  have t1 : WE S (tOp rSubU (tC (.int 1)) (tVar 9)) ρ fun y => y = .int (1 - k) := we_op (we_int (we_var 9 h9 (rd_sub rfl)))
  have f0 : ∀ {Q : D → Prop} {x : Pt}, f.head? = some x → Q (pD x) → WE S (tOp (rIx S.G.K) (tDGet (tVar 2) (tVar 9)) (tC (.int 0))) ρ Q := fun {Q x} hx q => we_op (we_row h2 t9 hk (we_int (rd_ixL (head_at hx) q)))
  have g0 : ∀ {Q : D → Prop} {x : Pt}, g.head? = some x → Q (pD x) → WE S (tOp (rIx S.G.K) (tDGet (tVar 2) (tOp rSubU (tC (.int 1)) (tVar 9))) (tC (.int 0))) ρ Q := fun {Q x} hx q => we_op (we_row h2 t1 hk1 (we_int (rd_ixL (head_at hx) q)))
  -- the second test
  have second : (∀ x y, g.head? = some y → f.head? = some x → x = row ++ y) → WS S (tIfS (tAnd (tTest (tOp (rNeD S.G.K) (tDGet (tVar 2) (tVar 9)) (tLst tNil))) (tOr (tTest (tOp (rNeD S.G.K) (tSl (rSlU S.G.K) (tOp (rIx S.G.K) (tDGet (tVar 2) (tVar 9)) (tC (.int 0))) tNoPart (tPart (tCB (rLenU S.G.K) (tCons (tVar 12) tNil)))) (tVar 12))) (tTest (tOp rLeU (tCB (rLenU S.G.K) (tCons (tOp (rIx S.G.K) (tDGet (tVar 2) (tVar 9)) (tC (.int 0))) tNil)) (tCB (rLenU S.G.K) (tCons (tVar 12) tNil)))))) (tRet (tC (.bl false))) tNext) ρ E := fun first => by
    refine ws_if (wt_and (wt_some (we_row h2 t9 hk ⟨f, rfl, of, ?_⟩)))
    cases hf : f.head? with
    | none =>
      have e := none_head hf
      subst e
      refine iff_ (iff_ (ws_next (yes ⟨first, fun x hx => by cases hx⟩)))
    | some x =>
      have ox := of x (head_mem hf)
      have ne : (!f.isEmpty) = true := by
        cases f with
        | nil => cases hf
        | cons y ys => rfl
      rw [ne]
      refine ift (wt_or (wt_test (we_op (we_sl (f0 hf (wo_none (wo_some (we_cb (wa_cons (we_var 12 h12 (wa_nil (rc_lenT ⟨_, rfl, rs_tup ?_⟩))))))))))))
      rw [List.length_map, cutP_take]
      refine we_var 12 h12 (rd_nePP (sOk_take ox) orow ⟨_, rfl, ifnd (fun h => ift (ws_ret (we_bl (no fun z => h (z.2 x hf).1)))) fun h => ?_⟩)
      refine wt_test (we_op (we_cb (wa_cons (f0 hf (wa_nil (rc_lenT (we_cb (wa_cons (we_var 12 h12 (wa_nil (rc_lenT ?_)))))))))))
      rw [List.length_map, List.length_map]
      refine rd_le ⟨_, rfl, ifd (fun h3 => ws_ret (we_bl (no fun z => (z.2 x hf).2 (by omega)))) fun h3 => ws_next (yes ⟨first, fun x' hx' => ?_⟩)⟩
      rw [hf] at hx'
      cases hx'
      exact ⟨h, by omega⟩
  unfold tMeetSide
  refine ws_seq (ws_if (wt_and (wt_some (we_row h2 t1 hk1 ⟨g, rfl, og, ?_⟩))))
  cases hg : g.head? with
  | none =>
    have e := none_head hg
    subst e
    exact iff_ (iff_ (ws_next (second fun x y hy => by cases hy)))
  | some y =>
    have ne : (!g.isEmpty) = true := by
      cases g with
      | nil => cases hg
      | cons y ys => rfl
    rw [ne]
    refine ift (wt_and (wt_some (we_row h2 t9 hk ⟨f, rfl, of, ?_⟩)))
    cases hf : f.head? with
    | none =>
      have e := none_head hf
      subst e
      exact iff_ (iff_ (ws_next (second fun x y _ hx => by cases hx)))
    | some x =>
      have ne : (!f.isEmpty) = true := by
        cases f with
        | nil => cases hf
        | cons y ys => rfl
      rw [ne]
      refine ift (wt_test (we_op (f0 hf (we_op (we_var 12 h12 (g0 hg (rd_addT ?_ ?_)))))))
      · rw [List.length_map, List.length_map]
        have := lg y (head_mem hg)
        exact line_of (by omega)
      · rw [← List.map_append]
        refine rd_nePP (of x (head_mem hf)) (fun z hz => (List.mem_append.mp hz).elim (orow z) (og y (head_mem hg) z)) ⟨_, rfl, ifnd (fun h => ws_ret (we_bl (no fun z => h (z.1 x y hg hf)))) fun h => ws_next (second fun x' y' hy' hx' => ?_)⟩
        rw [hg] at hy'
        rw [hf] at hx'
        cases hy'
        cases hx'
        exact h
end
section
variable {S : Sc}
/-- the lists' shapes: what stands in front -/
theorem meet_rest {E : DE} {X Y : D} {m : Mt} {s4 s5 s6 s7 s8 s9 s10 s11 s12 : Sl} (hs9 : s9.ads = []) (z0 : m.f0.length ≤ 4) (z1 : m.f1.length ≤ 4) (z2 : m.l0.length ≤ 4) (z3 : m.l1.length ≤ 4)
    (o0 : ∀ r ∈ m.f0, ∀ x ∈ r, sOk x) (o1 : ∀ r ∈ m.f1, ∀ x ∈ r, sOk x) (o2 : ∀ r ∈ m.l0, ∀ x ∈ r, sOk x) (o3 : ∀ r ∈ m.l1, ∀ x ∈ r, sOk x) (l0 : ∀ r ∈ m.f0, r.length ≤ 100) (l1 : ∀ r ∈ m.f1, r.length ≤ 100) (l2 : ∀ r ∈ m.l0, r.length ≤ 100) (l3 : ∀ r ∈ m.l1, r.length ≤ 100) (no : ¬ m.fin → E.rt (.bl false)) (yes : m.fin → E.rt (.bl true)) :
    WS S (tMeetRest S.G) [.d X, .d Y, .d (dctL2 (m.f0.map pD) (m.f1.map pD)), .d (dctL2 (m.l0.map pD) (m.l1.map pD)), s4, s5, s6, s7, s8, s9, s10, s11, s12] E := by
  unfold tMeetRest
  refine ws_seq (ws_if (wt_test (we_op ?_)))
  have gt1 : ∀ {n : Nat} {xs : List Pt}, (1 < n ↔ wide xs) → ∀ {Q : D → Prop}, ((wide xs → Q (.bl true)) ∧ (¬ wide xs → Q (.bl false))) → RD S.G rGtU (.int n) (.int 1) Q := fun {n xs} hn {Q} h => rd_gt (by
    by_cases w : wide xs
    · rw [decide_eq_true (show (1 : Int) < n by have := hn.mpr w; omega)]
      exact h.1 w
    · rw [decide_eq_false (show ¬ (1 : Int) < n from fun z => w (hn.mp (by omega)))]
      exact h.2 w)
  classical
  refine (wn_lc1 (α := Int) (j := 9) ⟨_, rfl, hs9⟩ (wi_seq (we_tup ?_))).e
  walk_at "ws"
  refine ⟨line_of (by simp), [.int 0, .int 1], rfl, [0, 1], D.int, fun z => if (if z = 0 then wide m.l0 ∨ wide m.f0 else wide m.l1 ∨ wide m.f1) then some (.int 1) else none, rfl, fun z hz p => ?_, ?_⟩
  · have hz2 : z = 0 ∨ z = 1 := by simpa using hz
    rcases hz2 with rfl | rfl
    · walk_at "ws"
      refine we_lenSet (we_dget (we_var 3 rfl (we_var 9 rfl ⟨.inl 0, _, .lst (m.l0.map pD), rfl, rfl, rfl, m.l0, rfl, z2, fun n hn => ?_⟩)))
      walk_at "ws"
      refine gt1 hn ⟨fun w => ⟨_, rfl, ift (ift ?_)⟩, fun w => ⟨_, rfl, iff_ ?_⟩⟩
      · walk_at "ws"
        simp [w]
      · walk_at "ws"
        refine we_lenSet (we_dget (we_var 2 rfl (we_var 9 rfl ⟨.inl 0, _, .lst (m.f0.map pD), rfl, rfl, rfl, m.f0, rfl, z0, fun n hn => ?_⟩)))
        walk_at "ws"
        refine gt1 hn ⟨fun w2 => ⟨_, rfl, ift ?_⟩, fun w2 => ⟨_, rfl, iff_ ?_⟩⟩
        · walk_at "ws"
          simp [w2]
        · simp [w, w2]
    · walk_at "ws"
      refine we_lenSet (we_dget (we_var 3 rfl (we_var 9 rfl ⟨.inl 1, _, .lst (m.l1.map pD), rfl, rfl, rfl, m.l1, rfl, z3, fun n hn => ?_⟩)))
      walk_at "ws"
      refine gt1 hn ⟨fun w => ⟨_, rfl, ift (ift ?_)⟩, fun w => ⟨_, rfl, iff_ ?_⟩⟩
      · walk_at "ws"
        simp [w]
      · walk_at "ws"
        refine we_lenSet (we_dget (we_var 2 rfl (we_var 9 rfl ⟨.inl 1, _, .lst (m.f1.map pD), rfl, rfl, rfl, m.f1, rfl, z1, fun n hn => ?_⟩)))
        walk_at "ws"
        refine gt1 hn ⟨fun w2 => ⟨_, rfl, ift ?_⟩, fun w2 => ⟨_, rfl, iff_ ?_⟩⟩
        · walk_at "ws"
          simp [w2]
        · simp [w, w2]
  · have out : (if (!eqD (.lst ([0, 1].filterMap fun z : Int => if (if z = 0 then wide m.l0 ∨ wide m.f0 else wide m.l1 ∨ wide m.f1) then some (.int 1) else none)) (.lst [])) = true then True else False) ↔ ((wide m.l0 ∨ wide m.f0) ∨ (wide m.l1 ∨ wide m.f1)) := by
      have e0 : eqD (.lst []) (.lst []) = true := eqD_same (n := 1) (ok_lst (by simp))
      have e1 : eqD (.lst [.int 1]) (.lst []) = false := eqD_false (n := 1) (m := 1) (ok_lst (by simp [ok_int])) (ok_lst (by simp)) (by intro z; injection z with z; cases z)
      have e2 : eqD (.lst [.int 1, .int 1]) (.lst []) = false := eqD_false (n := 1) (m := 1) (ok_lst (by simp [ok_int])) (ok_lst (by simp)) (by intro z; injection z with z; cases z)
      by_cases a : wide m.l0 ∨ wide m.f0 <;> by_cases b : wide m.l1 ∨ wide m.f1 <;> simp [a, b, e0, e1, e2]
    refine (wn_lst (wa_nil ⟨Nat.zero_le _, rd_ne 1 (ok_lst ?_) (ok_lst (by simp)) ⟨_, rfl, ?_⟩⟩)).e
    · intro d hd
      obtain ⟨z, _, hz⟩ := List.mem_filterMap.mp hd
      by_cases c : (if z = 0 then wide m.l0 ∨ wide m.f0 else wide m.l1 ∨ wide m.f1)
      · rw [if_pos c] at hz
        cases hz
        exact ok_int
      · rw [if_neg c] at hz
        cases hz
    · refine ifb (fun hb => ws_ret (we_bl (no fun F => ?_))) fun hb => ws_next ?_
      · rw [if_pos hb] at out
        rcases out.mp trivial with (w | w) | (w | w)
        · exact not_same w F.s2
        · exact not_same w F.s0
        · exact not_same w F.s3
        · exact not_same w F.s1
      · rw [if_neg (by rw [hb]; decide)] at out
        have nw : ¬ ((wide m.l0 ∨ wide m.f0) ∨ (wide m.l1 ∨ wide m.f1)) := fun z => out.mpr z
        have k2 : same m.l0 := same_of fun z => nw (.inl (.inl z))
        have k0 : same m.f0 := same_of fun z => nw (.inl (.inr z))
        have k3 : same m.l1 := same_of fun z => nw (.inr (.inl z))
        have k1 : same m.f1 := same_of fun z => nw (.inr (.inr z))
        have third : (∀ r0 r1, m.l0.head? = some r0 → m.l1.head? = some r1 → r0 = [] ∧ r1 = []) → WS S (tSeq (tFor (iSeq S.G.K (tTup (tCons (tC (.int 0)) (tCons (tC (.int 1)) tNil)))) (gName 9) (tFor (iSeq S.G.K (tSl (rSlU S.G.K) (tDGet (tVar 3) (tVar 9)) tNoPart (tPart (tC (.int 1))))) (gName 12) (tMeetSide S.G))) (tRet (tC (.bl true))))
            [.d X, .d Y, .d (dctL2 (m.f0.map pD) (m.f1.map pD)), .d (dctL2 (m.l0.map pD) (m.l1.map pD)), s4, s5, s6, s7, s8, s9, s10, s11, s12] E := fun cross => by
          refine ws_seq (ws_for1 D.int [0, 1] (fun done ρ => ∃ t9 t12, ρ = [.d X, .d Y, .d (dctL2 (m.f0.map pD) (m.f1.map pD)), .d (dctL2 (m.l0.map pD) (m.l1.map pD)), s4, s5, s6, s7, s8, t9, s10, s11, t12] ∧ (0 ∈ done → sideOk m.l0 m.f0 m.f1) ∧ (1 ∈ done → sideOk m.l1 m.f1 m.f0)) (wi_seq (we_tup (wa_cons (we_int (wa_cons (we_int (wa_nil ⟨line_of (by simp), _, rfl, rfl, ⟨_, _, rfl, (by simp), by simp⟩, ?_, ?_⟩))))))))
          · rintro zp z zq ρ' ez ⟨t9, t12, rfl, c0, c1⟩
            have hz : z = 0 ∨ z = 1 := by
              have : z ∈ ([0, 1] : List Int) := by rw [ez]; simp
              simpa using this
            have go : ∀ {L F Gg : List Pt} (kvs : valD [((Sum.inl 0 : Key), D.lst (m.l0.map pD)), (.inl 1, .lst (m.l1.map pD))] (.inl z) = some (.lst (L.map pD)))
                (hk : valD [((Sum.inl 0 : Key), D.lst (m.f0.map pD)), (.inl 1, .lst (m.f1.map pD))] (.inl z) = some (.lst (F.map pD))) (hk1 : valD [((Sum.inl 0 : Key), D.lst (m.f0.map pD)), (.inl 1, .lst (m.f1.map pD))] (.inl (1 - z)) = some (.lst (Gg.map pD)))
                (oF : ∀ r ∈ F, ∀ x ∈ r, sOk x) (oG : ∀ r ∈ Gg, ∀ x ∈ r, sOk x) (oL : ∀ r ∈ L, ∀ x ∈ r, sOk x) (lG : ∀ r ∈ Gg, r.length ≤ 100) (lL : ∀ r ∈ L, r.length ≤ 100) {E2 : DE} (no2 : ¬ sideOk L F Gg → E2.rt (.bl false))
                (yes2 : sideOk L F Gg → ∀ t12, E2.nx [.d X, .d Y, .d (dctL2 (m.f0.map pD) (m.f1.map pD)), .d (dctL2 (m.l0.map pD) (m.l1.map pD)), s4, s5, s6, s7, s8, .d (.int z), s10, s11, t12]),
                WS S (tFor (iSeq S.G.K (tSl (rSlU S.G.K) (tDGet (tVar 3) (tVar 9)) tNoPart (tPart (tC (.int 1))))) (gName 12) (tMeetSide S.G)) [.d X, .d Y, .d (dctL2 (m.f0.map pD) (m.f1.map pD)), .d (dctL2 (m.l0.map pD) (m.l1.map pD)), s4, s5, s6, s7, s8, .d (.int z), s10, s11, t12] E2 := by
              intro L F Gg kvs hk hk1 oF oG oL lG lL E2 no2 yes2
              refine ws_for1 pD (L.take 1) (fun done ρ => ∃ t12, ρ = [.d X, .d Y, .d (dctL2 (m.f0.map pD) (m.f1.map pD)), .d (dctL2 (m.l0.map pD) (m.l1.map pD)), s4, s5, s6, s7, s8, .d (.int z), s10, s11, t12] ∧ (done = L.take 1 → sideOk L F Gg ∨ L = [] ∨ done = [])) (wi_seq (wn_sl (we_row (i := 3) rfl (we_var 9 rfl rfl) kvs (wo_none (wo_some (we_int ⟨_, rfl, rsn_lst ⟨_, rfl, ?_, ⟨_, rfl, fun _ => .inr (.inr rfl)⟩, ?_, ?_⟩⟩))))).e)
              · rw [cutD_map]
                have := cutD_take L 1
                rw [show (1 : Int) = ((1 : Nat) : Int) from rfl, this]
              · rintro yp y yq ρ2 ey ⟨u12, rfl, cc⟩
                cases L with
                | nil => cases yp <;> cases ey
                | cons w L =>
                  have e1 : yp = [] ∧ y = w ∧ yq = [] := by
                    cases yp with
                    | nil => injection ey with e1 e2; exact ⟨rfl, e1.symm, e2.symm⟩
                    | cons v yp => injection ey with e1 e2; cases yp <;> cases e2
                  obtain ⟨rfl, rfl, rfl⟩ := e1
                  have iffs : rowOk y F Gg ↔ sideOk (y :: L) F Gg := ⟨fun h row hr => by cases hr; exact h, fun h => h y rfl⟩
                  refine meet_side (f := F) (g := Gg) (row := y) rfl rfl rfl hk hk1 oF oG (oL y (.head _)) lG (lL y (.head _)) (fun h => no2 fun z => h (iffs.mpr z)) fun h => ⟨_, rfl, fun _ => .inl (iffs.mp h)⟩
              · rintro ρ2 ⟨u12, rfl, cc⟩
                refine yes2 ?_ _
                rcases cc rfl with h | h | h
                · exact h
                · subst h
                  exact fun row hr => by cases hr
                · cases L with
                  | nil => exact fun row hr => by cases hr
                  | cons w L => cases h
            rcases hz with rfl | rfl
            · exact go (L := m.l0) (F := m.f0) (Gg := m.f1) rfl rfl rfl o0 o1 o2 l1 l2 (fun h => no fun F => h F.a) fun h t12 => ⟨_, _, rfl, fun _ => h, fun hm => c1 (by simpa using hm)⟩
            · exact go (L := m.l1) (F := m.f1) (Gg := m.f0) rfl rfl rfl o1 o0 o3 l0 l3 (fun h => no fun F => h F.b) fun h t12 => ⟨_, _, rfl, fun hm => c0 (by simpa using hm), fun _ => h⟩
          · rintro ρ' ⟨t9, t12, rfl, c0, c1⟩
            exact ws_ret (we_bl (yes ⟨k0, k1, k2, k3, cross, c0 (by simp), c1 (by simp)⟩))
        have full : ∀ {xs : List Pt} {x : Pt}, xs.head? = some x → (!xs.isEmpty) = true := fun {xs x} h => by
          cases xs with
          | nil => cases h
          | cons y ys => rfl
        refine ws_seq (ws_if (wt_and (wt_some (we_row (i := 3) (k := 0) rfl (we_int rfl) rfl ⟨m.l0, rfl, o2, ?_⟩))))
        cases h0 : m.l0.head? with
        | none =>
          rw [none_head h0]
          refine iff_ (iff_ (ws_next ?_))
          have z := third fun r0 r1 h _ => by rw [h0] at h; cases h
          rw [none_head h0] at z
          exact z
        | some r0 =>
          rw [full h0]
          refine ift (wt_and (wt_some (we_row (i := 3) (k := 1) rfl (we_int rfl) rfl ⟨m.l1, rfl, o3, ?_⟩)))
          cases h1 : m.l1.head? with
          | none =>
            rw [none_head h1]
            refine iff_ (iff_ (ws_next ?_))
            have z := third fun r0 r1 _ h => by rw [h1] at h; cases h
            rw [none_head h1] at z
            exact z
          | some r1 =>
            rw [full h1]
            refine ift (wt_or (wt_test (we_op (we_op (we_row (i := 3) (k := 0) rfl (we_int rfl) rfl (we_int (rd_ixL (head_at h0) (we_tup (wa_nil ⟨Nat.zero_le _, ?_⟩)))))))))
            refine rd_nePP (p := r0) (q := []) (o2 r0 (head_mem h0)) (by simp) ⟨_, rfl, ifnd (fun ne => ift (ws_ret (we_bl (no fun F => ne (F.cross r0 r1 h0 h1).1)))) fun e0 => ?_⟩
            refine wt_test (we_op (we_op (we_row (i := 3) (k := 1) rfl (we_int rfl) rfl (we_int (rd_ixL (head_at h1) (we_tup (wa_nil ⟨Nat.zero_le _, ?_⟩)))))))
            refine rd_nePP (p := r1) (q := []) (o3 r1 (head_mem h1)) (by simp) ⟨_, rfl, ifnd (fun ne => ws_ret (we_bl (no fun F => ne (F.cross r0 r1 h0 h1).2))) fun e1 => ws_next (third fun x0 x1 hx0 hx1 => ?_)⟩
            rw [h0] at hx0
            rw [h1] at hx1
            cases hx0
            cases hx1
            exact ⟨e0, e1⟩
end
end

section
set_option Elab.async false
set_option autoImplicit false
set_option linter.all false
set_option maxRecDepth 100000
set_option maxHeartbeats 4000000
open PySem PySem.Spec PyProof.Rows L2

/-- the lists so far -/
structure MInv (done : List (Pt × Pt)) (m : Mt) : Prop where
  eqs : ∀ t u : Pt, t ≠ [] → u ≠ [] → (m.holds t u ↔ ∀ z ∈ done, fill t z.1 = fill u z.2)
  a : m.f0.length ≤ done.length ∧ ∀ f ∈ m.f0, f ≠ [] ∧ f.length ≤ 100 ∧ ∀ x ∈ f, sOk x
  b : m.f1.length ≤ done.length ∧ ∀ f ∈ m.f1, f ≠ [] ∧ f.length ≤ 100 ∧ ∀ x ∈ f, sOk x
  c : m.l0.length ≤ done.length ∧ ∀ f ∈ m.l0, f.length ≤ 100 ∧ ∀ x ∈ f, sOk x
  d : m.l1.length ≤ done.length ∧ ∀ f ∈ m.l1, f.length ≤ 100 ∧ ∀ x ∈ f, sOk x
theorem Ad.grow {P : Pt → Prop} {xs ys : List Pt} {n : Nat} (h : Ad P xs ys) (k : xs.length ≤ n ∧ ∀ f ∈ xs, P f) : ys.length ≤ n + 1 ∧ ∀ f ∈ ys, P f := by
  rcases h with rfl | ⟨x, rfl, hx⟩
  · exact ⟨Nat.le_succ_of_le k.1, k.2⟩
  · refine ⟨by rw [List.length_append]; simpa using k.1, fun f hf => ?_⟩
    rcases List.mem_append.mp hf with hf | hf
    · exact k.2 f hf
    · rw [List.mem_singleton.mp hf]
      exact hx
theorem MInv.step {done : List (Pt × Pt)} {m m' : Mt} {p q : Pt} (I : MInv done m) (h : ∀ t u : Pt, t ≠ [] → u ≠ [] → (m'.holds t u ↔ m.holds t u ∧ fill t p = fill u q)) (g : Gw m m') : MInv (done ++ [(p, q)]) m' := by
  have e : (done ++ [(p, q)]).length = done.length + 1 := by rw [List.length_append] <;> rfl
  refine ⟨fun t u ht hu => by rw [h t u ht hu, I.eqs t u ht hu, all_snoc], ?_, ?_, ?_, ?_⟩ <;> rw [e]
  · exact g.a.grow I.a
  · exact g.b.grow I.b
  · exact g.c.grow I.c
  · exact g.d.grow I.d
theorem zip_fill {t u : Pt} : ∀ {ps qs : List Pt}, ps.length = qs.length → ((∀ z ∈ ps.zip qs, fill t z.1 = fill u z.2) ↔ ps.map (fill t) = qs.map (fill u))
  | [], [], _ => by simp
  | [], _ :: _, h => by cases h
  | _ :: _, [], h => by cases h
  | p :: ps, q :: qs, h => by
    have ih := zip_fill (t := t) (u := u) (ps := ps) (qs := qs) (by simpa using h)
    rw [List.map_cons, List.map_cons, List.cons.injEq, ← ih]
    constructor
    · exact fun k => ⟨k (p, q) (.head _), fun z hz => k z (.tail _ hz)⟩
    · rintro ⟨k1, k2⟩ z hz
      rcases List.mem_cons.mp (show z ∈ (p, q) :: ps.zip qs from hz) with e | hz
      · rw [e]
        exact k1
      · exact k2 z hz
section
variable {G : Gx} {B : Addr → Prop} {H : Hp}
theorem law_lmeet (ds : List D) (Q : D → Prop) (hl : ds.length = 2) (h : F__law_do_meet ds Q) : WS ⟨G, B, H⟩ (t__law_do_meet G) (ent 13 ds) { nx := fun _ => Q .non, rt := Q } := by
  obtain ⟨ps, qs, rfl, hlen, l4, hp, hq, q⟩ := h
  rw [t_meet_eq]
  refine ws_seq (ws_twoD (by decide) (by show 3 < 13; decide) fun a a0 a1 b b0 b1 => ?_)
  refine ws_seq (ws_for2 (fun z => pD z.1) (fun z => pD z.2) (ps.zip qs) (fun done ρ => ∃ m s4 s5 s6 s7 s8 s9 s10 s11 s12, MInv done m ∧ s9.ads = [] ∧ ρ = [.d (.tup (ps.map pD)), .d (.tup (qs.map pD)), .own a (dL2 a0 a1 (m.f0.map pD) (m.f1.map pD)), .own b (dL2 b0 b1 (m.l0.map pD) (m.l1.map pD)), s4, s5, s6, s7, s8, s9, s10, s11, s12]) (wi_zip ?_))
  walk_at "ws"
  refine ⟨?_, ?_, ?_, ?_⟩
  · rw [List.zip_map, List.map_map]
    rfl
  · exact ⟨⟨[], [], [], []⟩, _, _, _, _, _, _, _, _, _, ⟨fun t u _ _ => ⟨fun _ z hz => (by cases hz), fun _ => Mt.holds_nil t u⟩, by simp, by simp, by simp, by simp⟩, rfl, rfl⟩
  · rintro zp ⟨p, r⟩ zq ρ' ez ⟨m, s4, s5, s6, s7, s8, s9, s10, s11, s12, I, hs9, rfl⟩
    have hm : (p, r) ∈ ps.zip qs := by rw [ez]; simp
    obtain ⟨m1, m2⟩ := List.of_mem_zip hm
    have lz : zp.length < 4 := by
      have := congrArg List.length ez
      rw [List.length_zip, List.length_append, List.length_cons] at this
      omega
    have sa := I.a.1
    have sb := I.b.1
    have sc := I.c.1
    have sd := I.d.1
    refine meet_turn (S := ⟨G, B, H⟩) (hp p m1) (hq r m2) (m := m) hs9 (by omega) (by omega) (by omega) (by omega) (fun no => q false ⟨fun e => (by cases e), fun ⟨t, u, ht, hu, e⟩ => ?_⟩) fun m' t6 t7 t8 t9 t10 t11 t12 h9 hh g => ⟨m', _, _, t6, t7, t8, t9, t10, t11, t12, I.step hh g, h9, rfl⟩
    exact absurd ((zip_fill hlen).mpr e (p, r) hm) (no t u ht hu)
  · rintro ρ' ⟨m, s4, s5, s6, s7, s8, s9, s10, s11, s12, I, hs9, rfl⟩
    have lz : (ps.zip qs).length ≤ 4 := by
      rw [List.length_zip]
      omega
    have sa := I.a
    have sb := I.b
    have sc := I.c
    have sd := I.d
    have iffs : m.fin ↔ meets ps qs := by
      constructor
      · intro F
        obtain ⟨t, u, ht, hu, hh⟩ := Mt.of_fin (fun f hf => (sa.2 f hf).1) (fun f hf => (sb.2 f hf).1) F
        exact ⟨t, u, ht, hu, (zip_fill hlen).mp ((I.eqs t u ht hu).mp hh)⟩
      · rintro ⟨t, u, ht, hu, e⟩
        exact Mt.fin_of ht hu ((I.eqs t u ht hu).mpr ((zip_fill hlen).mpr e))
    refine ws_giveUp 2 rfl (ws_giveUp 3 rfl ?_)
    exact meet_rest (S := ⟨G, B, H⟩) (m := m) hs9 (by omega) (by omega) (by omega) (by omega) (fun r hr => (sa.2 r hr).2.2) (fun r hr => (sb.2 r hr).2.2) (fun r hr => (sc.2 r hr).2) (fun r hr => (sd.2 r hr).2) (fun r hr => (sa.2 r hr).2.1) (fun r hr => (sb.2 r hr).2.1) (fun r hr => (sc.2 r hr).1) (fun r hr => (sd.2 r hr).1)
      (fun nf => q false ⟨fun e => (by cases e), fun e => absurd (iffs.mpr e) nf⟩) fun f => q true ⟨fun _ => iffs.mp f, fun _ => rfl⟩
end
end

section
set_option Elab.async false
set_option autoImplicit false
set_option linter.all false
set_option maxRecDepth 100000
set_option maxHeartbeats 4000000
open PySem PySem.Spec PyProof.Rows L2

theorem seqIx {n m : Nat} (h : n < m) : seqIndex? (n : Int) m = some n := by
  unfold seqIndex?
  have h0 : ¬ ((n : Int) < 0) := by omega
  simp [h0]
  omega
section
variable {G : Gx} {B : Addr → Prop} {H : Hp}
theorem law_some (ds : List D) (Q : D → Prop) (hl : ds.length = 3) (h : F__law_some ds Q) : WS ⟨G, B, H⟩ (t__law_some G) (ent 5 ds) { nx := fun _ => Q .non, rt := Q } := by
  obtain ⟨d, xs, many, rfl, hx, hm, hz, q⟩ := h
  unfold t__law_some
  refine ws_seq (ws_asgN (wn_cb (wa_cons (we_var 1 rfl (wa_nil (rcn_lst hx fun p0 => ?_))))))
  refine ws_retPop (xs := xs) rfl ⟨.no, rfl, rfl⟩ (by decide) (wi_range1 (wa_cons (we_var 2 rfl (wa_nil ⟨many, rfl, by omega, by omega, ?_, ?_⟩))))
  · intro p d acc left pm la
    rw [rngD_len] at la
    have hlen := pm.length_eq
    rw [List.length_append] at hlen
    refine we_call (S := Sc.in ⟨G, B, H⟩ p) (wa_cons (we_var 0 rfl (wa_cons ?_)))
    refine we_borrow 3 rfl (we_cb (wa_cons (we_var 3 rfl (wa_nil (rc_lenL ⟨rfl, wa_nil ⟨rfl, _, rfl, by omega, by omega, fun r r0 r1 => ?_⟩⟩)))))
    obtain ⟨n, rfl⟩ : ∃ n : Nat, r = n := ⟨r.toNat, by omega⟩
    exact ⟨n, n, rfl, by omega, by omega, seqIx (by omega), by omega⟩
  · intro acc left pm la
    rw [rngD_len] at la
    exact q acc ⟨left, pm⟩ (by omega)
end
end

section
set_option Elab.async false
set_option autoImplicit false
set_option linter.all false
set_option maxRecDepth 100000
set_option maxHeartbeats 4000000
open PySem PySem.Spec PyProof.Rows L2
theorem flat_ddD (d : Dd) : flatD (ddD d) = true := by
  cases d with
  | undo h n => simp [flatD, flatDs]
  | add e =>
    have h := flat_enD e
    simp [flatD, flatDs] at h ⊢
    exact h
  | drop e =>
    have h := flat_enD e
    simp [flatD, flatDs] at h ⊢
    exact h
theorem flat_rcD (r : Rc) : flatD (rcD r) = true := by
  simp only [flatD, flatDs, flat_ddD]
  rfl
theorem flat_ints (ns : List Int) : flatDs (ns.map D.int) = true := flatDs_map fun _ _ => by simp [flatD]
theorem atI_of {α : Type} {xs : List α} {r : Nat} (h : r < xs.length) : atI xs (r : Int) = some xs[r] := atI_n (List.getElem?_eq_getElem h)
/-- the next numbers of the hands: above all that are there -/
structure NumOk (hands k : Nat) (found : List Rc) (ns : List Int) : Prop where
  len : ns.length = hands
  pos : ∀ n ∈ ns, 0 ≤ n ∧ n ≤ 2 * k
  up : ∀ r ∈ found, ∃ (h : Nat) (hh : h < ns.length), r.h = h ∧ r.n < ns[h]
  nd : (found.map fun r => (r.h, r.n)).Nodup
theorem NumOk.next {hands k : Nat} {found : List Rc} {ns : List Int} (N : NumOk hands k found ns) {h : Nat} (hh : h < ns.length) {d : Int} (hd : d = 1 ∨ d = 2) {r : Rc} (e1 : r.h = h) (e2 : r.n = ns[h]) : NumOk hands (k + 1) (found ++ [r]) (ns.set h (ns[h] + d)) := by
  have p := N.pos _ (List.getElem_mem hh)
  refine ⟨by rw [List.length_set]; exact N.len, fun n hn => ?_, fun q hq => ?_, ?_⟩
  · rcases List.mem_or_eq_of_mem_set hn with z | z
    · have := N.pos n z
      omega
    · subst z
      omega
  · rcases List.mem_append.mp hq with hq | hq
    · obtain ⟨g, hg, a, b⟩ := N.up q hq
      refine ⟨g, by rw [List.length_set]; exact hg, a, ?_⟩
      rw [List.getElem_set]
      split
      · rename_i e
        subst e
        omega
      · exact b
    · rw [List.mem_singleton.mp hq]
      refine ⟨h, by rw [List.length_set]; exact hh, e1, ?_⟩
      rw [List.getElem_set_self, e2]
      omega
  · rw [List.map_append, List.map_singleton]
    refine List.nodup_append.mpr ⟨N.nd, by simp, fun x hx y hy e => ?_⟩
    rw [List.mem_singleton.mp hy] at e
    subst e
    obtain ⟨q, hq, eq⟩ := List.mem_map.mp hx
    injection eq with a1 a2
    obtain ⟨g, hg, a, b⟩ := N.up q hq
    rw [a1, e1] at a
    have : g = h := by omega
    subst this
    rw [a2, e2] at b
    omega
theorem perm_map {α β : Type} {f : α → β} : ∀ {xs : List α} {ys : List β}, (xs.map f).Perm ys → ∃ zs, ys = zs.map f ∧ xs.Perm zs := by
  intro xs ys h
  generalize e : xs.map f = us at h
  induction h generalizing xs with
  | nil =>
    cases xs with
    | nil => exact ⟨[], rfl, .nil⟩
    | cons x xs => cases e
  | cons u p ih =>
    cases xs with
    | nil => cases e
    | cons x xs =>
      rw [List.map_cons] at e
      injection e with e1 e2
      obtain ⟨zs, e3, p3⟩ := ih e2
      exact ⟨x :: zs, by rw [List.map_cons, e1, e3], p3.cons x⟩
  | swap a b l =>
    cases xs with
    | nil => cases e
    | cons x xs =>
      cases xs with
      | nil => cases e
      | cons y xs =>
        rw [List.map_cons, List.map_cons] at e
        injection e with e1 e2
        injection e2 with e2 e3
        exact ⟨y :: x :: xs, by rw [List.map_cons, List.map_cons, e1, e2, e3], .swap y x xs⟩
  | trans p1 p2 ih1 ih2 =>
    obtain ⟨zs, e1, q1⟩ := ih1 e
    obtain ⟨ws, e2, q2⟩ := ih2 e1.symm
    exact ⟨ws, e2, q1.trans q2⟩
section
variable {G : Gx} {B : Addr → Prop} {H : Hp}
theorem law_drawn_records (ds : List D) (Q : D → Prop) (hl : ds.length = 5) (h : F__law_drawn_records ds Q) : WS ⟨G, B, H⟩ (t__law_drawn_records G) (ent 9 ds) { nx := fun _ => Q .non, rt := Q } := by
  obtain ⟨pool, hands, many, days, bases, cons, rfl, pne, pl, h0, h1, hm, dne, dl, hd, hp, q⟩ := h
  unfold t__law_drawn_records
  refine ws_seq (ws_parLN ?_)
  refine wn_op ?_
  refine (wn_lst (wa_cons (we_int (wa_nil ⟨line_of (by simp), ?_⟩)))).e
  refine we_var 2 rfl (rdn_rep (by omega) (by omega) (by simp) ?_)
  have er : (List.replicate (hands : Int).toNat [D.int 0]).flatten = (List.replicate hands (0 : Int)).map D.int := by
    have key : ∀ n : Nat, (List.replicate n [D.int 0]).flatten = (List.replicate n (0 : Int)).map D.int := fun n => by
      induction n with
      | zero => rfl
      | succ n ih => rw [List.replicate_succ, List.flatten_cons, ih, List.replicate_succ, List.map_cons] <;> rfl
    exact key hands
  rw [er]
  refine ⟨flat_ints _, fun p r => ?_⟩
  refine ws_seq (ws_for1 (fun i : Nat => D.int i) (List.range many) (fun done ρ => ∃ (found : List Rc) (ns : List Int) (s7 s8 : Sl), (∀ r ∈ found, RcOk bases cons r ∧ RcSm r) ∧ found.length = done.length ∧ NumOk hands done.length found ns ∧
    ρ = [.d .dk, .d (.lst (pool.map enD)), .d (.int hands), .d (.int many), .d (.lst (days.map D.int)), .own p (.lst (found.map rcD)), .own r (.lst (ns.map D.int)), s7, s8]) (wi_range1 (wa_cons (we_var 3 rfl (wa_nil ⟨many, rfl, by omega, by omega, ?_, ?_, ?_, ?_⟩)))))
  · show (List.range many).map (fun (i : Nat) => D.int (0 + (i : Int))) = _
    exact List.map_congr_left fun i _ => by rw [Int.zero_add]
  · refine ⟨[], List.replicate hands 0, _, _, by simp, rfl, ⟨by simp, fun n hn => ?_, by simp, by simp⟩, rfl⟩
    rw [List.eq_of_mem_replicate hn]
    exact ⟨Int.le_refl _, by simp⟩
  · rintro zp z zq ρ' ez ⟨found, ns, s7, s8, ok, lf, N, rfl⟩
    have lz : zp.length < many := by
      have := congrArg List.length ez
      rw [List.length_range, List.length_append, List.length_cons] at this
      omega
    walk_at "ws"
    refine ⟨rfl, _, rfl, by omega, by omega, fun hand g0 g1 => ?_⟩
    obtain ⟨hn, rfl⟩ : ∃ n : Nat, hand = n := ⟨hand.toNat, by omega⟩
    have hh : hn < ns.length := by rw [N.len]; omega
    have hix : atI (ns.map D.int) (hn : Int) = some (.int ns[hn]) := by rw [atI_map, atI_of hh]; rfl
    have ps := N.pos _ (List.getElem_mem hh)
    refine ws_seq (ws_app (i := 5) rfl (by rw [List.length_map]; omega) ?_)
    refine we_tup (wa_cons (we_var 8 rfl (wa_cons (we_borrow 6 rfl (we_op (we_var 6 rfl (we_var 8 rfl (rd_ixL hix ⟨rfl, ?_⟩))))))))
    walk_at "ws"
    refine ⟨rfl, _, days.map D.int, rfl, rfl, fun e => dne (List.map_eq_nil_iff.mp e), by rw [List.length_map]; exact dl, fun x hx => ?_⟩
    obtain ⟨day, hday, rfl⟩ := List.mem_map.mp hx
    refine wa_cons (we_borrow 5 rfl ?_)
    walk_at "ws"
    refine ⟨rfl, pool, hands, found, bases, cons, rfl, pne, pl, by omega, by omega, by omega, hp, ok, fun d od sd => ⟨flat_ddD d, ?_⟩⟩
    walk_at "ws"
    refine ⟨line_of (by simp), ?_⟩
    have sd2 := hd day hday
    refine ws_setI (i := 6) rfl (we_op (we_borrow 6 rfl (we_op (we_var 6 rfl (we_var 8 rfl (rd_ixL hix ⟨rfl, ?_⟩))))))
    walk_at "ws"
    refine (wn_lst ?_).e
    walk_at "ws"
    refine ⟨line_of (by simp), ?_⟩
    walk_at "ws"
    refine ⟨rfl, _, ([1, 1, 1, 2] : List Int).map D.int, rfl, rfl, by decide, by decide, fun x hx => ?_⟩
    obtain ⟨inc, hinc, rfl⟩ := List.mem_map.mp hx
    have hi2 : inc = 1 ∨ inc = 2 := by
      have : inc = 1 ∨ inc = 1 ∨ inc = 1 ∨ inc = 2 := by simpa using hinc
      omega
    refine rd_addI ?_
    walk_at "ws"
    refine ⟨_, hn, rfl, by rw [List.length_map]; exact Evl.ixN_nat hh, found ++ [⟨hn, ns[hn], day, d⟩], ns.set hn (ns[hn] + inc), .d (.int z), .d (.int hn), fun r hr => ?_, by rw [List.length_append, List.length_append, lf] <;> rfl, ?_, ?_⟩
    · rcases List.mem_append.mp hr with hr | hr
      · exact ok r hr
      · rw [List.mem_singleton.mp hr]
        exact ⟨⟨g0, ps.1, sd2.1, od⟩, ⟨g0, by show (hn : Int) ≤ 100000; omega⟩, ⟨ps.1, by show ns[hn] ≤ 100000; omega⟩, sd2, sd⟩
    · have e : (zp ++ [z]).length = zp.length + 1 := by rw [List.length_append] <;> rfl
      rw [e]
      exact N.next hh hi2 rfl rfl
    · rw [List.map_append, List.map_set]
      rfl
  · rintro ρ' ⟨found, ns, s7, s8, ok, lf, N, rfl⟩
    rw [List.length_range] at lf
    refine ws_release 5 rfl ?_
    walk_at "ws"
    refine rc_lenL ?_
    walk_at "ws"
    refine ⟨rfl, _, found.map rcD, found.length, by rw [List.length_map], rfl, by rw [List.length_map]; exact Nat.le_refl _, by rw [List.length_map]; omega, fun ys ⟨rest, pm⟩ ly => ?_⟩
    walk_at "ws"
    refine rc_tupL ?_
    have pr : (found.map rcD).Perm ys := by
      have e := pm.length_eq
      rw [List.length_map, List.length_append] at e
      have : rest = [] := List.length_eq_zero_iff.mp (by omega)
      rw [this, List.append_nil] at pm
      exact pm
    obtain ⟨rs, ers, prs⟩ := perm_map pr
    subst ers
    refine q rs ⟨fun r hr => (ok r (prs.mem_iff.mpr hr)).1, (prs.map fun r => (r.h, r.n)).nodup_iff.mp N.nd, by rw [← prs.length_eq]; omega⟩ (fun r hr => (ok r (prs.mem_iff.mpr hr)).2) (by rw [← prs.length_eq]; exact lf)
end
end

section
set_option Elab.async false
set_option autoImplicit false
set_option linter.all false
set_option maxRecDepth 100000
set_option maxHeartbeats 4000000
open PySem PySem.Spec PyProof.Rows L2
def tLikeRest (G : Gx) : TS :=
    (tSeq (tAsg (tOp (rNeD G.K) (tLc (iSeq G.K (tVar 5)) (gName 9) (tTest (tOp (rEqD G.K) (tOp (rIx G.K) (tVar 9) (tUn (rU fun i => .int (-i)) (tC (.int 1)))) (tC (.str "T")))) (tC (.int 1)) [9]) (tLst tNil)) (gName 8))
    (tRet (tOp (rAddU G.K) (tSl (rSlU G.K) (tVar 1) tNoPart (tPart (tC (.int 2)))) (tTup (tCons (tCB (rTupU G.K) (tCons (tVar 5) tNil)) (tCons (tIf (tOr (tB (tVar 8)) (tTest (tOp (rNeD G.K) (tOp (rIx G.K) (tVar 6) (tUn (rU fun i => .int (-i)) (tC (.int 1)))) (tC (.str "T"))))) (tVar 6) (tOp (rAddU G.K) (tSl (rSlU G.K) (tVar 6) tNoPart (tPart (tUn (rU fun i => .int (-i)) (tC (.int 1))))) (tSl (rSlU G.K) (tVar 3) tNoPart (tPart (tC (.int 1)))))) tNil))))))
/-- a pattern that may come in a row's place -/
structure Cand (bases cons : List Str) (c : Pt) : Prop where
  ne : c ≠ []
  ok : ∀ x ∈ c, sOk x
  good : (c.getLast ne = "T" ∨ c.getLast ne ∈ bases) → PtOk c ∧ partOk bases cons c
theorem Cand.of {bases cons : List Str} {c : Pt} (h : PtOk c ∧ partOk bases cons c) : Cand bases cons c := ⟨h.1.ne, h.1.ok, fun _ => h⟩
theorem cand_T {bases cons : List Str} : PtOk ["T"] ∧ partOk bases cons ["T"] := ⟨⟨by simp, (by simp; decide +kernel), by simp, by simp, by simp⟩, by simp, by simp⟩
theorem cand_init {bases cons : List Str} {p : Pt} {l : Str} (h : PtOk p ∧ partOk bases cons p) (bc : BsOk bases cons) (hl : l = "T" ∨ l ∈ bases) : PtOk (p.dropLast ++ [l]) ∧ partOk bases cons (p.dropLast ++ [l]) := by
  have hne : p.dropLast ++ [l] ≠ [] := by simp
  have hgl : ∀ h, (p.dropLast ++ [l]).getLast h = l := fun h => by simp
  have lp : 0 < p.length := List.length_pos_iff.mpr h.1.ne
  refine ⟨⟨hne, fun x hx => ?_, ?_, fun x hx => ?_, ?_⟩, fun x hx => ?_, fun _ => ?_⟩
  · rcases List.mem_append.mp hx with hx | hx
    · exact h.1.ok x (List.dropLast_subset p hx)
    · rw [List.mem_singleton.mp hx]
      rcases hl with e | e
      · rw [e]
        exact sOk_T
      · exact bc.bc.b.ok l e
  · have := h.1.short
    rw [List.length_append, List.length_dropLast]
    simp
    omega
  · rw [List.dropLast_concat] at hx
    exact h.1.names x hx
  · rw [hgl]
    rcases hl with e | e
    · exact .inr e
    · exact .inl (bc.bc.b.nm l e)
  · rw [List.dropLast_concat] at hx
    exact h.2.1 x hx
  · rw [hgl]
    exact hl
theorem cand_one {bases cons : List Str} {p : Pt} (h : PtOk p ∧ partOk bases cons p) (bc : BsOk bases cons) : Cand bases cons (p.take 1) := by
  obtain ⟨x, r, rfl⟩ : ∃ x r, p = x :: r := by
    cases p with
    | nil => exact absurd rfl h.1.ne
    | cons x r => exact ⟨x, r, rfl⟩
  refine ⟨by simp, fun y hy => h.1.ok y (List.mem_of_mem_take hy), fun hl => ?_⟩
  have hl2 : x = "T" ∨ x ∈ bases := by simpa using hl
  show PtOk [x] ∧ partOk bases cons [x]
  exact pt_law (ks := []) bc (by simp) (by simp) hl2
section
variable {G : Gx} {B : Addr → Prop} {H : Hp}
theorem law_like_rest {L : Lby} {names : List Str} {e : En} {rows : List Pt} {res : Pt} {p : Addr} {s7 : Sl} {Q : D → Prop} (bc : BsOk L.bases L.cons) (he : EnOf L.bases L.cons e) (lr : rows.length = e.ps.length) (hr : ∀ r ∈ rows, PtOk r ∧ partOk L.bases L.cons r) (hres : PtOk res ∧ partOk L.bases L.cons res)
    (q : ∀ e' : En, EnOf L.bases L.cons e' → Q (enD e')) :
    WS ⟨G, B, H⟩ (tLikeRest G) [.d .dk, .d (enD e), .d (partsD L names), .d (pD L.bases), .d (pD L.cons), .own p (.lst (rows.map pD)), .d (pD res), s7, .no, .no] { nx := fun _ => Q .non, rt := Q } := by
  have l4 : rows.length ≤ 4 := by
    rw [lr]
    have := he.ok.num
    unfold numOk at this
    split at this <;> omega
  have fin : ∀ res' : Pt, PtOk res' ∧ partOk L.bases L.cons res' → (hT res' = false ∨ ∃ r ∈ rows, hT r = true) → Q (enD ⟨e.sort, e.name, rows, res'⟩) := fun res' h1 h2 =>
    q _ ⟨⟨he.ok.sort, he.ok.name, by rw [lr]; exact he.ok.num, fun r h => (hr r h).1, h1.1, h2, he.ok.nok⟩, fun r h => (hr r h).2, h1.2⟩
  unfold tLikeRest
  refine ws_release 5 rfl ?_
  iterate 3 walk_at "w"
  refine (wn_lc1 (α := Pt) (j := 9) ⟨_, rfl, rfl⟩ (wi_seq ?_)).e
  walk_at "ws"
  refine ⟨rows, pD, fun p => if hT p = true then some (.int 1) else none, rfl, fun p hp a => ?_, ?_⟩
  · walk_at "ws"
    refine rd_ixT (atI_pD (hr p hp).1.ne) ?_
    walk_at "ws"
    refine rd_eqSS ((hr p hp).1.ok _ (List.getLast_mem (hr p hp).1.ne)) sOk_T ⟨_, rfl, ?_⟩
    rw [← hT_dec (hr p hp).1.ne]
    refine ifb (fun e => ?_) fun e => ?_
    · walk_at "ws"
      exact if_pos e
    · exact if_neg (by rw [e]; decide)
  refine (wn_lst ?_).e
  walk_at "ws"
  refine ⟨Nat.zero_le _, ?_⟩
  have okx : okD 1 (.lst (rows.filterMap fun p => if hT p = true then some (D.int 1) else none)) = true := by
    rw [fm_filter (fun p => hT p = true) (fun _ => D.int 1)]
    exact ok_lst (ok_map fun _ _ => ok_int)
  refine rd_ne 1 okx (ok_lst (by simp)) ?_
  rw [any_fm]
  have tl : ∀ {ρ : List Sl} {te : TE} {rr : Pt}, ρ[1]? = some (.d (enD e)) → ρ[5]? = some (.d (.lst (rows.map pD))) → WE ⟨G, B, H⟩ te ρ (fun d => d = pD rr) → Q (enD ⟨e.sort, e.name, rows, rr⟩) →
      WE ⟨G, B, H⟩ (tOp (rAddU G.K) (tSl (rSlU G.K) (tVar 1) tNoPart (tPart (tC (.int 2)))) (tTup (tCons (tCB (rTupU G.K) (tCons (tVar 5) tNil)) (tCons te tNil)))) ρ Q := fun {ρ te rr} h1 h5 ht hq => by
    refine we_op (we_sl (we_var 1 h1 (wo_none (wo_some (we_int ⟨_, rfl, rs_tup ?_⟩)))))
    rw [cut_four]
    refine we_tup (wa_cons (we_cb (wa_cons (we_var 5 h5 (wa_nil (rc_tupL ?_))))))
    refine wa_cons (ht.mono fun d ed => ?_)
    subst ed
    exact wa_nil ⟨line_of (by simp), rd_addT (xs := [.str e.sort, .str e.name]) (by exact line_of (by simp)) hq⟩
  have last : res.getLast hres.1.ne = "T" ↔ hT res = true := by rw [hT_dec hres.1.ne, decide_eq_true_eq]
  by_cases ha : rows.any hT = true
  · refine ws_ret (tl (rr := res) rfl rfl (we_if (wt_or (wt_B (we_var 8 rfl ⟨_, rfl, ?_⟩)))) (fin res hres (.inr (List.any_eq_true.mp ha))))
    rw [ha]
    exact ift (ift (we_var 6 rfl rfl))
  · have hf : rows.any hT = false := by simpa using ha
    cases hres2 : hT res with
    | false =>
      refine ws_ret (tl (rr := res) rfl rfl (we_if (wt_or (wt_B (we_var 8 rfl ⟨_, rfl, ?_⟩)))) (fin res hres (.inl hres2)))
      rw [hf]
      refine iff_ (wt_test (we_op (we_op (we_var 6 rfl (we_neg (rd_ixT (atI_pD hres.1.ne) (we_str (rd_neSS (hres.1.ok _ (List.getLast_mem hres.1.ne)) sOk_T ⟨_, rfl, ?_⟩))))))))
      rw [decide_eq_false fun z => by rw [last.mp z] at hres2; cases hres2]
      exact ift (we_var 6 rfl rfl)
    | true =>
      obtain ⟨b, bs, eb⟩ : ∃ b bs, L.bases = b :: bs := by
        cases h : L.bases with
        | nil => exact absurd h bc.bc.ne
        | cons b bs => exact ⟨b, bs, rfl⟩
      have hb : b ∈ L.bases := by rw [eb]; exact .head _
      have nT : b ≠ "T" := fun e => by
        have := bc.bc.b.nm b hb
        rw [e] at this
        revert this
        decide +kernel
      refine ws_ret (tl (rr := res.dropLast ++ [b]) rfl rfl (we_if (wt_or (wt_B (we_var 8 rfl ⟨_, rfl, ?_⟩)))) (fin _ (cand_init hres bc (.inr hb)) (.inl ?_)))
      · rw [hf]
        refine iff_ (wt_test (we_op (we_op (we_var 6 rfl (we_neg (rd_ixT (atI_pD hres.1.ne) (we_str (rd_neSS (hres.1.ok _ (List.getLast_mem hres.1.ne)) sOk_T ⟨_, rfl, ?_⟩))))))))
        rw [decide_eq_true (last.mpr hres2)]
        refine iff_ (we_op (we_sl (we_var 6 rfl (wo_none (wo_some (we_neg ⟨_, rfl, rs_tup ?_⟩))))))
        rw [dropLast_cut]
        refine we_sl (we_var 3 rfl (wo_none (wo_some (we_int ⟨_, rfl, rs_tup ?_⟩))))
        have e1 : cutD (L.bases.map D.str) none (some 1) = [D.str b] := by
          rw [cutD_map]
          have := cutD_take L.bases 1
          rw [show (1 : Int) = ((1 : Nat) : Int) from rfl, this, eb]
          rfl
        rw [e1]
        refine rd_addT ?_ ?_
        · rw [List.length_map, List.length_dropLast]
          have := hres.1.short
          exact line_of (by simp; omega)
        · show D.tup _ = D.tup ((res.dropLast ++ [b]).map D.str)
          rw [List.map_append]
          rfl
      · rw [hT_snoc]
        exact decide_eq_false nT
theorem flat_pD (p : Pt) : flatD (pD p) = true := by
  simp only [flatD]
  exact flatDs_map fun _ _ => by simp [flatD]
theorem law_like (ds : List D) (Q : D → Prop) (hl : ds.length = 3) (h : F__law_like ds Q) : WS ⟨G, B, H⟩ (t__law_like G) (ent 10 ds) { nx := fun _ => Q .non, rt := Q } := by
  obtain ⟨e, L, names, rfl, bc, he, q⟩ := h
  have ob := bc.bc.b.ok
  have oc := bc.bc.c.ok
  have bl := bc.bl
  have cl := bc.cl
  have l4 : e.ps.length ≤ 4 := by
    have := he.ok.num
    unfold numOk at this
    split at this <;> omega
  have hps : ∀ r ∈ e.ps, PtOk r ∧ partOk L.bases L.cons r := fun r hr => ⟨he.ok.ps r hr, he.ps r hr⟩
  unfold t__law_like
  refine ws_seq (ws_par (wa_cons (we_dget (we_var 2 rfl (we_str ⟨.inr "bases", _, pD L.bases, rfl, rfl, rfl, ?_⟩)))))
  refine wa_cons (we_dget (we_var 2 rfl (we_str ⟨.inr "constructors", _, pD L.cons, rfl, rfl, rfl, ?_⟩)))
  refine wa_nil ⟨_, _, rfl, ?_⟩
  refine ws_seq (ws_parNE (wn_cb (wa_cons (we_op (we_var 1 rfl (we_int (rd_ixT (d := .tup (e.ps.map pD)) rfl (wa_nil (rcn_lst rfl ⟨flatDs_map fun r _ => flat_pD r, ?_⟩)))))))) (by decide))
  refine we_call (wa_cons (we_var 0 rfl (wa_cons ((wn_lst ?_).e))))
  refine wa_cons (we_op (we_var 1 rfl (we_int (rd_ixT (d := pD e.res) rfl ?_))))
  refine wa_cons (we_op (we_var 1 rfl (we_int (rd_ixT (d := pD e.res) rfl ?_))))
  refine wa_cons (we_call (wa_cons (we_var 0 rfl (wa_cons (we_var 4 rfl (wa_cons (we_var 3 rfl (wa_cons (we_int (wa_nil ⟨rfl, L.cons, L.bases, 1, rfl, by omega, bc.bc.ne, by omega, by omega, oc, fun ks l hk hlk hll => ?_⟩))))))))))
  refine wa_nil ⟨line_of (by simp), wa_nil ⟨rfl, _, [pD e.res, pD e.res, pD (ks ++ [l])], rfl, rfl, by simp, by simp, fun x hx => ?_⟩⟩
  have hx2 : ∃ res : Pt, x = pD res ∧ PtOk res ∧ partOk L.bases L.cons res := by
    have : x = pD e.res ∨ x = pD e.res ∨ x = pD (ks ++ [l]) := by simpa using hx
    rcases this with rfl | rfl | rfl
    · exact ⟨_, rfl, he.ok.res, he.res⟩
    · exact ⟨_, rfl, he.ok.res, he.res⟩
    · exact ⟨_, rfl, pt_law bc hk (by omega) (.inr hll)⟩
  obtain ⟨res, rfl, hres⟩ := hx2
  refine ⟨flat_pD res, fun p => ?_⟩
  have go : ∀ {rows : List Pt} {s7 : Sl}, rows.length = e.ps.length → (∀ r ∈ rows, PtOk r ∧ partOk L.bases L.cons r) → WS ⟨G, B, H⟩ (tLikeRest G) [.d .dk, .d (enD e), .d (partsD L names), .d (pD L.bases), .d (pD L.cons), .own p (.lst (rows.map pD)), .d (pD res), s7, .no, .no] { nx := fun _ => Q .non, rt := Q } :=
    fun {rows s7} lr hr => law_like_rest bc he lr hr hres q
  refine ws_seq (ws_if (wt_and (wt_borrow 5 rfl (wt_some (we_var 5 rfl ⟨e.ps, rfl, fun r hr => (hps r hr).1.ok, ?_⟩)))))
  refine ifb (fun hne => ?_) fun _ => iff_ (ws_next (go rfl hps))
  have pos : 0 < e.ps.length := by
    cases hh : e.ps with
    | nil => rw [hh] at hne; cases hne
    | cons a b => simp
  refine wt_test (we_op (we_call (wa_cons (we_var 0 rfl (wa_cons (we_int (wa_nil ⟨rfl, 4, rfl, by omega, by omega, fun k k0 k1 => we_int (rd_gt ⟨_, rfl, ifd (fun _ => ?_) fun _ => ws_next (go rfl hps)⟩)⟩)))))))
  refine ws_seq (ws_asg (we_call (wa_cons (we_var 0 rfl (wa_cons (we_borrow 5 rfl (we_cb (wa_cons (we_var 5 rfl (wa_nil (rc_lenL ⟨rfl, wa_nil ⟨rfl, _, rfl, by rw [List.length_map]; omega, by rw [List.length_map]; omega, fun at0 a0 a1 => ?_⟩⟩)))))))))))
  rw [List.length_map] at a1
  obtain ⟨n, rfl⟩ : ∃ n : Nat, at0 = n := ⟨at0.toNat, by omega⟩
  have hn : n < e.ps.length := by omega
  have hat : ∀ {rows : List Pt} (h : n < rows.length), atI (rows.map pD) (n : Int) = some (pD rows[n]) := fun {rows} h => by rw [atI_map, atI_of h]; rfl
  have hp := hps _ (List.getElem_mem hn)
  have tN : (["T"] : List Str).map D.str = [D.str "T"] := rfl
  refine ws_seq (ws_setI (i := 5) rfl (we_borrow 5 rfl (we_call (wa_cons (we_var 0 rfl (wa_cons ((wn_lst ?_).e)))))))
  refine wa_cons (we_tup (wa_cons (we_str (wa_nil ⟨line_of (by simp), ?_⟩))))
  refine wa_cons (we_sl (we_op (we_var 5 rfl (we_var 7 rfl (rd_ixL (hat hn) (wo_none (wo_some (we_int ⟨_, rfl, rs_tup ?_⟩))))))))
  have c1 : cutD (e.ps[n].map D.str) none (some 1) = (e.ps[n].take 1).map D.str := by
    have := cutP_take (p := e.ps[n]) (n := 1)
    exact this
  rw [c1]
  refine wa_cons (we_op (we_sl (we_op (we_var 5 rfl (we_var 7 rfl (rd_ixL (hat hn) (wo_none (wo_some (we_neg ⟨_, rfl, rs_tup ?_⟩)))))))))
  rw [dropLast_cut]
  refine we_tup (wa_cons (we_str (wa_nil ⟨line_of (by simp), rd_addT ?_ ?_⟩)))
  · rw [List.length_map, List.length_dropLast]
    have := hp.1.short
    exact line_of (by simp; omega)
  rw [← tN, ← List.map_append]
  refine wa_cons (we_call (wa_cons (we_var 0 rfl (wa_cons (we_var 4 rfl (wa_cons (we_op (we_tup (wa_cons (we_str (wa_nil ⟨line_of (by simp), we_var 3 rfl (rd_addT (xs := [.str "T"]) (by rw [List.length_map]; exact line_of (by simp; omega)) ?_)⟩)))))))))))
  refine wa_cons (we_int (wa_nil ⟨rfl, L.cons, "T" :: L.bases, 2, rfl, by omega, by simp, by omega, by simp; omega, oc, fun ks l hk hlk hll => ?_⟩))
  refine wa_nil ⟨line_of (by simp), wa_nil ⟨rfl, _, [pD ["T"], pD (e.ps[n].take 1), pD (e.ps[n].dropLast ++ [("T" : Str)]), pD (ks ++ [l])], rfl, rfl, by simp, by simp, fun x hx => ?_⟩⟩
  have hx2 : ∃ c : Pt, x = pD c ∧ Cand L.bases L.cons c := by
    have : x = pD ["T"] ∨ x = pD (e.ps[n].take 1) ∨ x = pD (e.ps[n].dropLast ++ [("T" : Str)]) ∨ x = pD (ks ++ [l]) := by simpa using hx
    rcases this with rfl | rfl | rfl | rfl
    · exact ⟨_, rfl, .of cand_T⟩
    · exact ⟨_, rfl, cand_one hp bc⟩
    · exact ⟨_, rfl, .of (cand_init hp bc (.inl rfl))⟩
    · exact ⟨_, rfl, .of (pt_law bc hk hlk (by simpa using hll))⟩
  obtain ⟨c, rfl, hc⟩ := hx2
  refine ⟨flat_pD c, we_var 7 rfl ⟨n, n, rfl, by rw [List.length_map]; exact Evl.ixN_nat hn, ?_⟩⟩
  have er : (e.ps.map pD).set n (pD c) = (e.ps.set n c).map pD := by rw [List.map_set]
  rw [er]
  have ln : n < (e.ps.set n c).length := by rw [List.length_set]; exact hn
  have hat2 : atI ((e.ps.set n c).map pD) (n : Int) = some (pD c) := by rw [hat ln]; simp
  have okT : ∀ x ∈ c, sOk x := hc.ok
  refine ws_setI (i := 5) rfl (we_borrow 5 rfl (we_if (wt_test (we_op (we_op (we_op (we_var 5 rfl (we_var 7 rfl (rd_ixL hat2 (we_neg (rd_ixT (atI_pD hc.ne) ?_)))))))))))
  refine we_op (we_tup (wa_cons (we_str (wa_nil ⟨line_of (by simp), we_var 3 rfl (rd_addT (xs := [.str "T"]) (by rw [List.length_map]; exact line_of (by simp; omega)) ?_)⟩))))
  rw [← tN, ← List.map_append]
  refine rd_inT ⟨_, rfl, ifd (fun hin => ?_) fun hout => ?_⟩
  · have good := hc.good (by simpa using hin)
    refine we_op (we_var 5 rfl (we_var 7 rfl (rd_ixL hat2 ⟨flat_pD c, we_var 7 rfl ⟨n, n, rfl, by rw [List.length_map]; exact Evl.ixN_nat ln, ?_⟩⟩)))
    have e2 : ((e.ps.set n c).map pD).set n (pD c) = (e.ps.set n c).map pD := by rw [← List.map_set, List.set_set]
    rw [e2]
    refine go (by rw [List.length_set]) fun r hr => ?_
    rcases List.mem_or_eq_of_mem_set hr with z | z
    · exact hps r z
    · rw [z]
      exact good
  · refine we_op (we_op (we_var 1 rfl (we_int (rd_ixT (d := .tup (e.ps.map pD)) rfl (we_var 7 rfl (rd_ixT (hat hn) ⟨flat_pD _, we_var 7 rfl ⟨n, n, rfl, by rw [List.length_map]; exact Evl.ixN_nat ln, ?_⟩⟩))))))
    have e2 : ((e.ps.set n c).map pD).set n (pD e.ps[n]) = e.ps.map pD := by rw [← List.map_set, List.set_set, List.set_getElem_self]
    rw [e2]
    exact go rfl hps
end
end

section
set_option Elab.async false
set_option autoImplicit false
set_option linter.all false
set_option maxRecDepth 100000
set_option maxHeartbeats 4000000
open PySem PySem.Spec PyProof.Rows L2
/-- texts sorted -/
def leS (a b : Str) : Bool := leD (.str a) (.str b)
def srtS (xs : List Str) : List Str := xs.mergeSort leS
theorem leS_eq (a b : Str) : leS a b = decide (a.cps.toList ≤ b.cps.toList) := congrFun (congrFun (PySem.W.dataLe_str fun x : Str => x) a) b
theorem lin_leS : Lin leS := ⟨fun a b c => (lin_data pyT).tr (.str a) (.str b) (.str c), fun a b => (lin_data pyT).to (.str a) (.str b)⟩
theorem srtS_D (xs : List Str) : srtD (xs.map D.str) = (srtS xs).map D.str := by
  unfold srtD srtS
  exact (List.map_mergeSort (f := D.str) (r := leS) (s := leD) fun a _ b _ => rfl).symm
theorem cps_inj {a b : Str} (h : a.cps.toList = b.cps.toList) : a = b := by
  obtain ⟨a⟩ := a
  obtain ⟨b⟩ := b
  rw [show a = b from Array.toList_inj.mp h]
theorem asc_srtS {xs : List Str} (nd : xs.Nodup) : asc (srtS xs) := fun z hz => by
  have n2 : (srtS xs).Nodup := (srt_perm leS xs).nodup_iff.mpr nd
  have p : (srtS xs).Pairwise fun a b => a.cps.toList < b.cps.toList := (srt_pw lin_leS xs).imp₂ (fun a b h ne => by
    rw [leS_eq, decide_eq_true_eq] at h
    exact Std.lt_of_le_of_ne h fun e => ne (cps_inj e)) n2
  exact pw_zip p z hz
section
variable {G : Gx} {B : Addr → Prop} {H : Hp}
theorem rcn_srtS {xs : List Str} {x : D} {Q : List D → Prop} (hx : itemsD x = some (xs.map D.str)) (ho : ∀ y ∈ xs, sOk y) (q : Q ((srtS xs).map D.str)) : RCN G (rSortedD G.K) [x] Q := by
  refine rcn_sorted 1 hx (okDs_all.mpr (ok_map fun y hy => ok_str (ho y hy))) (fun d hd e he => ?_) (.inr fun d hd => ?_) (by rw [srtS_D]; exact q)
  · obtain ⟨k, hk, rfl⟩ := List.mem_map.mp hd
    obtain ⟨l, hl, rfl⟩ := List.mem_map.mp he
    simp [pyT, PySem.W.alike]
  · obtain ⟨k, hk, rfl⟩ := List.mem_map.mp hd
    obtain ⟨l, hl, rfl⟩ := List.mem_map.mp hk
    simp [pyT]
theorem clash_comm {a b : En} (h : clash a b) : clash b a := by
  obtain ⟨h1, h2, h3, t, u, ht, hu, e⟩ := h
  exact ⟨h1.symm, h2.symm, h3.symm, u, t, hu, ht, e.symm⟩
theorem NoCl.perm {xs ys : List En} (h : NoCl xs) (p : xs.Perm ys) : NoCl ys := (p.pairwise_iff fun {a b} k z => k (clash_comm z)).mp h
theorem cutD_mid {α : Type} {xs : List α} {a b : Nat} (h : b ≤ xs.length) (hab : a ≤ b) : cutD xs (some (a : Int)) (some (b : Int)) = (xs.drop a).take (b - a) := by
  unfold cutD
  rw [HT.sIx_nat, HT.sIx_nat, Nat.min_eq_left h, Nat.min_eq_left (Nat.le_trans hab h)]
theorem srtS_mem {x : Str} {xs : List Str} : x ∈ srtS xs ↔ x ∈ xs := (srt_perm leS xs).mem_iff
theorem nms_srt {ns xs : List Str} (N : NsOk ns) (sub : ∀ x ∈ xs, x ∈ ns) (nd : xs.Nodup) (l : xs.length ≤ 3) : NmsOk (srtS xs) ∧ (srtS xs).length ≤ 3 := by
  have e : (srtS xs).length = xs.length := (srt_perm leS xs).length_eq
  exact ⟨⟨fun x hx => N.nm x (sub x (srtS_mem.mp hx)), asc_srtS nd, fun x hx => N.ok x (sub x (srtS_mem.mp hx)), by omega⟩, by omega⟩
theorem bs_of {ns : List Str} (N : NsOk ns) (l : ns.length = 16) {k j : Nat} (k0 : 0 < k) (k3 : k ≤ 3) (j3 : j ≤ 3) : BsOk (srtS (ns.take k)) (srtS ((ns.drop 3).take j)) := by
  obtain ⟨b1, b2⟩ := nms_srt N (fun x hx => List.mem_of_mem_take hx) (N.nd.sublist (List.take_sublist k ns)) (by rw [List.length_take]; omega)
  obtain ⟨c1, c2⟩ := nms_srt N (fun x hx => List.mem_of_mem_drop (List.mem_of_mem_take hx)) ((N.nd.sublist (List.drop_sublist 3 ns)).sublist (List.take_sublist j _)) (by rw [List.length_take]; omega)
  refine ⟨⟨b1, c1, fun e => ?_, fun x hx hb => ?_⟩, b2, c2⟩
  · have e2 : (srtS (ns.take k)).length = (ns.take k).length := (srt_perm leS _).length_eq
    rw [e, List.length_take] at e2
    simp at e2
    omega
  · have h1 : x ∈ ns.drop 3 := List.mem_of_mem_take (srtS_mem.mp hx)
    have h2 : x ∈ ns.take 3 := by
      have h3 := srtS_mem.mp hb
      have e3 : ns.take k = (ns.take 3).take k := by rw [List.take_take, Nat.min_eq_left k3]
      rw [e3] at h3
      exact List.mem_of_mem_take h3
    have nd := N.nd
    rw [← List.take_append_drop 3 ns] at nd
    exact (List.nodup_append.mp nd).2.2 x h2 x h1 rfl
theorem lin_leE : Lin leE := ⟨fun a b c => (lin_data pyT).tr (enD a) (enD b) (enD c), fun a b => (lin_data pyT).to (enD a) (enD b)⟩
theorem srtE_idem (es : List En) : srtE (srtE es) = srtE es := srt_id lin_leE (srt_pw lin_leE es)
theorem flatDs_enD (es : List En) : flatDs (es.map enD) = true := flatDs_map fun e _ => flat_enD e
theorem law_parts (ds : List D) (Q : D → Prop) (hl : ds.length = 2) (h : F__law_parts ds Q) : WS ⟨G, B, H⟩ (t__law_parts G) (ent 11 ds) { nx := fun _ => Q .non, rt := Q } := by
  obtain ⟨many, rfl, hm, q⟩ := h
  unfold t__law_parts
  refine ws_seq (ws_asg (we_call (wa_cons (we_var 0 rfl (wa_cons (we_int (wa_nil ⟨rfl, rfl, fun ns N ln => ?_⟩)))))))
  have mapl : (ns.map D.str).length = 16 := by rw [List.length_map, ln]
  refine ws_seq (ws_asgG (js := [3] ++ ([4] ++ [])) (we_tup ?_))
  refine wa_cons (we_cb (wa_cons ((wn_cb (wa_cons ((wn_sl ?_).e))).e)))
  refine we_var 2 rfl (wo_none (wo_some (we_op (we_int (we_call (wa_cons (we_var 0 rfl (wa_cons (we_int (wa_nil ⟨rfl, 3, rfl, by omega, by omega, fun k k0 k1 => rd_addI ⟨_, rfl, rsn_lst ?_⟩⟩))))))))))
  obtain ⟨k, rfl⟩ : ∃ n : Nat, k = n := ⟨k.toNat, by omega⟩
  have c1 : cutD (ns.map D.str) none (some (1 + (k : Int))) = (ns.take (1 + k)).map D.str := by
    rw [cutD_map]
    have := cutD_take ns (1 + k)
    rw [← this]
    rfl
  rw [c1]
  refine wa_nil (rcn_srtS rfl (fun y hy => N.ok y (List.mem_of_mem_take hy)) (wa_nil (rc_tupL ?_)))
  refine wa_cons (we_cb (wa_cons ((wn_cb (wa_cons ((wn_sl ?_).e))).e)))
  refine we_var 2 rfl (wo_some (we_int ⟨_, rfl, wo_some (we_op (we_int (we_call (wa_cons (we_var 0 rfl (wa_cons (we_int (wa_nil ⟨rfl, 4, rfl, by omega, by omega, fun j j0 j1 => rd_addI ⟨_, rfl, rsn_lst ?_⟩⟩))))))))⟩))
  obtain ⟨j, rfl⟩ : ∃ n : Nat, j = n := ⟨j.toNat, by omega⟩
  have c2 : cutD (ns.map D.str) (some 3) (some (3 + (j : Int))) = ((ns.drop 3).take j).map D.str := by
    rw [cutD_map]
    have := cutD_mid (xs := ns) (a := 3) (b := 3 + j) (by omega) (by omega)
    rw [show 3 + j - 3 = j by omega] at this
    rw [← this]
    rfl
  rw [c2]
  refine wa_nil (rcn_srtS rfl (fun y hy => N.ok y (List.mem_of_mem_drop (List.mem_of_mem_take hy))) (wa_nil (rc_tupL ?_)))
  have BC := bs_of N ln (k := 1 + k) (j := j) (by omega) (by omega) (by omega)
  generalize srtS (ns.take (1 + k)) = bases at BC
  generalize srtS ((ns.drop 3).take j) = cons at BC
  refine wa_nil ⟨line_of (by simp), wg_tup rfl (wgs_cons (wg_name (wgs_cons (wg_name (wgs_nil ?_)))))⟩
  refine ws_seq (ws_asgN (wn_lst (wa_nil ⟨Nat.zero_le _, fun p => ?_⟩)))
  refine ws_seq (ws_for1 (fun i : Nat => D.int i) (List.range many) (fun done ρ => ∃ (es : List En) (s6 s7 : Sl), EsOk bases cons done.length es ∧ ρ = [.d .dk, .d (.int many), .d (.lst (ns.map D.str)), .d (pD bases), .d (pD cons), .own p (.lst (es.map enD)), s6, s7, .no, .no, .no]) (wi_range1 (wa_cons (we_var 1 rfl (wa_nil ⟨many, rfl, by omega, by omega, ?_, ?_, ?_, ?_⟩)))))
  · show (List.range many).map (fun (i : Nat) => D.int (0 + (i : Int))) = _
    exact List.map_congr_left fun i _ => by rw [Int.zero_add]
  · exact ⟨[], _, _, ⟨by simp, .nil, Nat.le_refl _⟩, rfl⟩
  · rintro zp z zq ρ' ez ⟨es, s6, s7, O, rfl⟩
    have lz : zp.length < many := by
      have := congrArg List.length ez
      rw [List.length_range, List.length_append, List.length_cons] at this
      omega
    have so := O.short
    refine ws_seq (ws_asg (we_call (wa_cons (we_var 0 rfl (wa_cons ((wn_sl (we_var 2 rfl (wo_some (we_int ⟨_, rfl, wo_some (we_int ⟨_, rfl, rsn_lst ?_⟩)⟩)))).e))))))
    have c3 : cutD (ns.map D.str) (some 6) (some 9) = ((ns.drop 6).take 3).map D.str := by
      rw [cutD_map]
      exact congrArg _ (cutD_mid (xs := ns) (a := 6) (b := 9) (by omega) (by omega))
    rw [c3]
    have sub : ∀ x ∈ (ns.drop 6).take 3, x ∈ ns := fun x hx => List.mem_of_mem_drop (List.mem_of_mem_take hx)
    refine wa_cons (we_var 3 rfl (wa_cons (we_var 4 rfl (wa_nil ⟨rfl, (ns.drop 6).take 3, bases, cons, rfl, BC, fun e => ?_, by rw [List.length_take]; omega, fun x hx => ⟨N.nm x (sub x hx), N.nw x (sub x hx), N.ok x (sub x hx)⟩, fun en hen => ?_⟩))))
    · have := congrArg List.length e
      rw [List.length_take, List.length_drop, ln] at this
      simp at this
    refine ws_ext (i := 5) rfl (we_if (wt_borrow 5 rfl (wt_test (we_op ((wn_lc1 (α := En) (j := 10) ⟨_, rfl, rfl⟩ (wi_seq (we_var 5 rfl ?_))).e)))))
    refine ⟨_, rfl, es, enD, clO en, rfl, fun o ho p2 => ?_, ?_⟩
    · refine wt_B (we_call (S := Sc.in ⟨G, B, H⟩ p2) (wa_cons (we_var 10 rfl (wa_cons (we_var 7 rfl (wa_nil ⟨rfl, o, en, rfl, (O.mem o ho).ok, hen.ok, fun c hc => ⟨_, rfl, ifb (fun h => ?_) fun h => ?_⟩⟩))))))
      · walk_at "ws"
        exact if_pos (hc.mp h)
      · refine if_neg fun h2 => ?_
        rw [hc.mpr h2] at h
        cases h
    · have okx : okD 1 (.lst (es.filterMap (clO en))) = true := by
        classical
        have ef : es.filterMap (clO en) = (es.filter fun o => decide (clash o en)).map fun _ => D.int 1 := by
          unfold clO
          rw [← fm_filter (fun o => clash o en) (fun _ => D.int 1) es]
        rw [ef]
        exact ok_lst (ok_map fun _ _ => ok_int)
      refine (wn_lst (wa_nil ⟨Nat.zero_le _, rd_eq 1 okx (ok_lst (by simp)) ⟨_, rfl, ?_⟩⟩)).e
      classical
      rw [clO_eq]
      have le : (zp ++ [z]).length = zp.length + 1 := by rw [List.length_append] <;> rfl
      refine ifd (fun hn => ?_) fun hn => ?_
      · refine (wn_lst (wa_cons (we_var 7 rfl (wa_nil ⟨line_of (by simp), [enD en], rfl, by rw [List.length_map]; simp; omega, ?_⟩)))).e
        have O2 := O.behind (d := .add en) hen
        rw [show Sw.behind es (.add en) = es ++ [en] from if_neg hn] at O2
        rw [le]
        exact ⟨es ++ [en], .d (.int z), .d (enD en), O2, by rw [List.map_append]; rfl⟩
      · refine (wn_lst (wa_nil ⟨line_of (by simp), [], rfl, by rw [List.length_map]; simp; omega, ?_⟩)).e
        rw [le, List.append_nil]
        exact ⟨es, .d (.int z), .d (enD en), ⟨O.mem, O.nc, by omega⟩, rfl⟩
  · rintro ρ' ⟨es, s6, s7, O, rfl⟩
    have so := O.short
    rw [List.length_range] at so
    refine ws_release 5 rfl (ws_seq (ws_asg ((wn_lcP (α := Nat) (j := 9) ⟨_, rfl, rfl⟩ (wi_range1 (wa_cons (we_int (wa_nil ⟨3, rfl, by omega, by omega, List.range 3, fun i => .int (0 + (i : Nat)), fun _ y => ∃ r, roleOk bases r ∧ y = oD r, rfl, fun z hz p2 => ?_, fun acc hf => ?_⟩))))).e)))
    · refine we_call (S := Sc.in ⟨G, B, H⟩ p2) (wa_cons (we_var 0 rfl (wa_cons ((wn_op ((wn_cb (wa_cons (we_var 3 rfl (wa_nil (rcn_lst rfl ?_))))).e)).e))))
      refine (wn_lst (wa_cons (we_non (wa_nil ⟨line_of (by simp), rdn_addL ?_ (wa_nil ⟨rfl, _, bases.map D.str ++ [.non], rfl, rfl, by simp, ?_, fun x hx => ?_⟩)⟩)))).e
      · rw [List.length_map]
        have := BC.bl
        exact line_of (by simp; omega)
      · rw [List.length_append, List.length_map]
        have := BC.bl
        simp
        omega
      · rcases List.mem_append.mp hx with hx | hx
        · obtain ⟨b, hb, rfl⟩ := List.mem_map.mp hx
          exact ⟨some b, fun y e => by cases e; exact hb, rfl⟩
        · rw [List.mem_singleton.mp hx]
          exact ⟨none, fun y e => (by cases e), rfl⟩
    · have h3 : ∃ a b c, roleOk bases a ∧ roleOk bases b ∧ roleOk bases c ∧ acc = [oD a, oD b, oD c] := by
        cases hf with
        | cons h1 hf =>
        cases hf with
        | cons h2 hf =>
        cases hf with
        | cons h3 hf =>
        cases hf
        obtain ⟨a, ha, rfl⟩ := h1
        obtain ⟨b, hb, rfl⟩ := h2
        obtain ⟨c, hc, rfl⟩ := h3
        exact ⟨a, b, c, ha, hb, hc, rfl⟩
      obtain ⟨ra, rb, rc, ha, hb, hc, rfl⟩ := h3
      refine ws_ret (we_disp (Nat.le_of_ble_eq_true rfl) fun p3 => ?_)
      refine we_str ⟨.inr "bases", rfl, we_var 3 rfl (we_str ⟨.inr "constructors", rfl, we_var 4 rfl (we_str ⟨.inr "entries", rfl, we_cb (S := Sc.in ⟨G, B, H⟩ p3) (wa_cons ((wn_cb (wa_cons (we_var 5 rfl (wa_nil (rcn_srtE rfl (fun e he => (O.mem e he).ok) (wa_nil (rc_tupL ?_))))))).e))⟩)⟩)⟩
      refine we_str ⟨.inr "roles", rfl, we_var 8 rfl (we_str ⟨.inr "names", rfl, we_var 2 rfl ?_⟩)⟩
      have pe : (srtE es).Perm es := srt_perm leE es
      refine q ⟨bases, cons, srtE es, ra, rb, rc⟩ ns ⟨BC.bc, fun e he => O.mem e (pe.mem_iff.mp he), O.nc.perm pe.symm, ha, hb, hc, ?_⟩ BC (srtE_idem es) ?_ N ln
      · show (srtE es).length ≤ 100
        rw [pe.length_eq]
        omega
      · show (srtE es).length ≤ many
        rw [pe.length_eq]
        omega
end
end

section
set_option Elab.async false
set_option autoImplicit false
set_option linter.all false
set_option maxRecDepth 100000
set_option maxHeartbeats 4000000
open PySem PySem.Spec PyProof.Rows L2
theorem inj_nodup {α β : Type} {f : α → β} : ∀ {xs : List α}, (xs.map f).Nodup → ∀ a ∈ xs, ∀ b ∈ xs, f a = f b → a = b
  | [], _, a, ha, _, _, _ => by cases ha
  | x :: xs, h, a, ha, b, hb, e => by
    rw [List.map_cons, List.nodup_cons] at h
    rcases List.mem_cons.mp ha with ea | ha2
    · rcases List.mem_cons.mp hb with eb | hb2
      · rw [ea, eb]
      · exact absurd (List.mem_map.mpr ⟨b, hb2, by rw [← e, ea]⟩) h.1
    · rcases List.mem_cons.mp hb with eb | hb2
      · exact absurd (List.mem_map.mpr ⟨a, ha2, by rw [e, eb]⟩) h.1
      · exact inj_nodup h.2 a ha2 b hb2 e
theorem lin_leR : Lin leR := ⟨fun a b c => (lin_data kP).tr (rk3 a) (rk3 b) (rk3 c), fun a b => (lin_data kP).to (rk3 a) (rk3 b)⟩
theorem leR_anti {rs : List Rc} (nd : (rs.map fun r => (r.h, r.n)).Nodup) : ∀ a ∈ rs, ∀ b ∈ rs, leR a b = true → leR b a = true → a = b := fun a ha b hb h1 h2 => by
  have h1 : PySem.W.dataLe false kP (rk3 a) (rk3 b) = true := h1
  have h2 : PySem.W.dataLe false kP (rk3 b) (rk3 a) = true := h2
  rw [le_kP, Bool.not_eq_true'] at h1 h2
  have e : rk3 a = rk3 b := lx_tri h2 h1
  unfold rk3 at e
  injection e with e1 e
  injection e with e2 e
  injection e with e3 e
  exact inj_nodup nd a ha b hb (by rw [e2, e3])
/-- the records that a day is told with -/
def SomeOf (day : Int) (rs some : List Rc) : Prop := some.Perm rs ∨ some = rs.filter fun r => decide (r.day ≤ day)
theorem live_some {rs some : List Rc} {day : Int} (nd : (rs.map fun r => (r.h, r.n)).Nodup) (h : SomeOf day rs some) : liveR some day = liveR rs day := by
  have e : srtR (some.filter fun r => decide (r.day ≤ day)) = srtR (rs.filter fun r => decide (r.day ≤ day)) := by
    rcases h with h | h
    · refine srt_same lin_leR (h.filter _) fun a ha b hb => leR_anti nd a (h.mem_iff.mp (List.mem_filter.mp ha).1) b (h.mem_iff.mp (List.mem_filter.mp hb).1)
    · rw [h, List.filter_filter]
      congr 2
      funext r
      exact Bool.and_self _
  unfold liveR
  rw [e]
theorem recs_some {bases cons : List Str} {rs some : List Rc} {day : Int} (ok : RcsOk bases cons rs) (h : SomeOf day rs some) : RcsOk bases cons some ∧ some.length ≤ rs.length := by
  rcases h with h | h
  · exact ⟨⟨fun r hr => ok.ok r (h.mem_iff.mp hr), (h.map _).nodup_iff.mpr ok.nd, by rw [h.length_eq]; exact ok.short⟩, by rw [h.length_eq]; exact Nat.le_refl _⟩
  · subst h
    have l := List.length_filter_le (fun r : Rc => decide (r.day ≤ day)) rs
    exact ⟨⟨fun r hr => ok.ok r (List.mem_filter.mp hr).1, ok.nd.sublist (List.filter_sublist.map _), by have := ok.short; omega⟩, l⟩
end

section
set_option Elab.async false
set_option autoImplicit false
set_option linter.all false
set_option maxRecDepth 100000
set_option maxHeartbeats 4000000
open PySem PySem.Spec PyProof.Rows L2
theorem wts_le {c : Nat} : ∀ {ds : List D}, (∀ d ∈ ds, (pyT d).weight ≤ c) → PyData.weightAll (pyTs ds) ≤ ds.length * (c + 1)
  | [], _ => by simp [pyTs, PyData.weightAll]
  | d :: ds, h => by
    have h1 := h d (by simp)
    have h2 := wts_le (c := c) (ds := ds) fun d hd => h d (List.mem_cons_of_mem _ hd)
    rw [pyTs, PyData.weightAll, List.length_cons, Nat.succ_mul]
    omega
theorem wt_tup (ds : List D) : (pyT (.tup ds)).weight = PyData.weightAll (pyTs ds) := by rw [pyT, PyData.weight]
theorem wt_tupmap {α : Type} {f : α → D} {c : Nat} {xs : List α} (h : ∀ a ∈ xs, (pyT (f a)).weight ≤ c) : (pyT (.tup (xs.map f))).weight ≤ xs.length * (c + 1) := by
  rw [wt_tup]
  have := wts_le (c := c) (ds := xs.map f) fun d hd => by
    obtain ⟨a, ha, rfl⟩ := List.mem_map.mp hd
    exact h a ha
  rwa [List.length_map] at this
theorem wt_str (x : Str) : (pyT (.str x)).weight = x.cps.size := by rw [pyT, PyData.weight]
theorem wt_nm {x : Str} (h : isNm x = true) : (pyT (.str x)).weight ≤ 8 := by
  rw [wt_str]
  unfold isNm at h
  rw [Bool.and_eq_true, decide_eq_true_eq] at h
  exact h.1.2
theorem wt_int {i : Int} (h : i.natAbs ≤ 1000000) : (pyT (.int i)).weight ≤ 20 := by
  rw [pyT, PyData.weight]
  have := log2_sh h
  split <;> omega
theorem wt_pt {p : Pt} (h : PtOk p) : (pyT (pD p)).weight ≤ 900 := by
  have h8 : ∀ x ∈ p, (pyT (.str x)).weight ≤ 8 := fun x hx => by
    by_cases hd : x ∈ p.dropLast
    · exact wt_nm (h.names x hd)
    · have e : p = p.dropLast ++ [p.getLast h.ne] := (List.dropLast_concat_getLast h.ne).symm
      rw [e] at hx
      rcases List.mem_append.mp hx with hx | hx
      · exact absurd hx hd
      · have ex : x = p.getLast h.ne := by simpa using hx
        rcases h.last with hl | hl
        · rw [← ex] at hl
          exact wt_nm hl
        · rw [← ex] at hl
          rw [hl, wt_str]
          decide
  have := wt_tupmap (f := D.str) h8
  have l := h.short
  exact Nat.le_trans this (Nat.mul_le_mul_right 9 l)
theorem wt_sort {x : Str} (h : x ∈ sorts) : (pyT (.str x)).weight ≤ 8 := by
  rw [wt_str]
  revert x
  decide +kernel
theorem wt_oper {x : Str} (h : x ∈ opers) : (pyT (.str x)).weight ≤ 8 := by
  rw [wt_str]
  revert x
  decide +kernel
theorem wt_name {s x : Str} (h : nameOk s x) : (pyT (.str x)).weight ≤ 8 := by
  unfold nameOk at h
  split at h
  · exact wt_oper h
  · exact wt_nm h.1
theorem num_le {s : Str} {n : Nat} (h : numOk s n) : n ≤ 4 := by
  unfold numOk at h
  split at h
  · omega
  · exact h.1
theorem wt_en {e : En} (h : EnOk e) : (pyT (enD e)).weight ≤ 4530 := by
  have h1 := wt_sort h.sort
  have h2 := wt_name h.name
  have h3 := wt_tupmap (f := pD) fun p hp => wt_pt (h.ps p hp)
  have h4 := wt_pt h.res
  have h5 := num_le h.num
  have h6 : e.ps.length * 901 ≤ 4 * 901 := Nat.mul_le_mul_right 901 h5
  rw [wt_tup]
  simp only [pyTs, PyData.weightAll]
  omega
theorem sm_abs {i : Int} (h : smI i) : i.natAbs ≤ 1000000 := by
  have h0 := h.1
  have h1 := h.2
  omega
theorem wt_dd {d : Dd} (h : DdEn d) (s : DdSm d) : (pyT (ddD d)).weight ≤ 4537 := by
  cases d with
  | undo a b =>
    have h1 := wt_int (sm_abs s.1)
    have h2 := wt_int (sm_abs s.2)
    have h3 : (pyT (.str "undo")).weight = 4 := by rw [wt_str]; rfl
    rw [wt_tup]
    simp only [pyTs, PyData.weightAll]
    omega
  | add e =>
    have h1 := wt_en (e := e) h
    have h3 : (pyT (.str "add")).weight = 3 := by rw [wt_str]; rfl
    rw [wt_tup]
    simp only [pyTs, PyData.weightAll]
    omega
  | drop e =>
    have h1 := wt_en (e := e) h
    have h3 : (pyT (.str "drop")).weight = 4 := by rw [wt_str]; rfl
    rw [wt_tup]
    simp only [pyTs, PyData.weightAll]
    omega
theorem wt_rc {r : Rc} (h : DdEn r.deed) (s : RcSm r) : (pyT (rcD r)).weight ≤ 4601 := by
  have h1 := wt_int (sm_abs s.h)
  have h2 := wt_int (sm_abs s.n)
  have h3 := wt_int (sm_abs s.day)
  have h4 := wt_dd h s.deed
  rw [wt_tup]
  simp only [pyTs, PyData.weightAll]
  omega
-- what is short to show
theorem sh_str (x : Str) : shD (.str x) = true := by simp [shD]
theorem sh_strs (p : List Str) : shDs (p.map D.str) = true := shDs_all.mpr fun d hd => by
  obtain ⟨x, hx, rfl⟩ := List.mem_map.mp hd
  exact sh_str _
theorem sh_pD (p : Pt) : shD (pD p) = true := by
  rw [shD]
  exact sh_strs p
theorem sh_map {α : Type} {f : α → D} {xs : List α} (h : ∀ a ∈ xs, shD (f a) = true) : shD (.tup (xs.map f)) = true := by
  rw [shD]
  exact shDs_all.mpr fun d hd => by
    obtain ⟨a, ha, rfl⟩ := List.mem_map.mp hd
    exact h a ha
theorem sh_en (e : En) : shD (enD e) = true := by
  have h1 := sh_map (f := pD) (xs := e.ps) fun p _ => sh_pD p
  have h2 := sh_pD e.res
  simp only [shD, shDs] at h1 h2 ⊢
  simp [h1, h2]
theorem sh_int {i : Int} (h : smI i) : shD (.int i) = true := by
  rw [shD]
  exact decide_eq_true (sm_abs h)
theorem sh_dd {d : Dd} (s : DdSm d) : shD (ddD d) = true := by
  cases d with
  | undo a b =>
    have h1 := sh_int s.1
    have h2 := sh_int s.2
    unfold ddD
    rw [shD]
    refine shDs_all.mpr fun d hd => ?_
    have h3 : d = .str "undo" ∨ d = .int a ∨ d = .int b := by simpa using hd
    rcases h3 with rfl | rfl | rfl
    · exact sh_str _
    · exact h1
    · exact h2
  | add e =>
    unfold ddD
    rw [shD]
    refine shDs_all.mpr fun d hd => ?_
    have h3 : d = .str "add" ∨ d = enD e := by simpa using hd
    rcases h3 with rfl | rfl
    · exact sh_str _
    · exact sh_en e
  | drop e =>
    unfold ddD
    rw [shD]
    refine shDs_all.mpr fun d hd => ?_
    have h3 : d = .str "drop" ∨ d = enD e := by simpa using hd
    rcases h3 with rfl | rfl
    · exact sh_str _
    · exact sh_en e
theorem sh_rc {r : Rc} (s : RcSm r) : shD (rcD r) = true := by
  unfold rcD
  rw [shD]
  refine shDs_all.mpr fun d hd => ?_
  have h3 : d = .int r.h ∨ d = .int r.n ∨ d = .int r.day ∨ d = ddD r.deed := by simpa using hd
  rcases h3 with rfl | rfl | rfl | rfl
  · exact sh_int s.h
  · exact sh_int s.n
  · exact sh_int s.day
  · exact sh_dd s.deed
section
variable {G : Gx}
theorem ok_esD {es : List En} (h : ∀ e ∈ es, EnOk e) : okD 6 (esD es) = true := ok_tup (n := 5) (ok_map fun e he => ok_enD (n := 2) (h e he))
theorem ok_rcs {bases cons : List Str} {rs : List Rc} (h : ∀ r ∈ rs, RcOk bases cons r) : okD 6 (.tup (rs.map rcD)) = true := ok_tup (n := 5) (ok_map fun r hr => ok_rcD (h r hr))
/-- repr((records, entries)) -/
theorem rc_reprRE {bases cons : List Str} {rs : List Rc} {es : List En} {Q : D → Prop} (hr : ∀ r ∈ rs, RcOk bases cons r) (hs : ∀ r ∈ rs, RcSm r) (he : ∀ e ∈ es, EnOk e) (hz : rs.length + es.length ≤ 220) (q : Q (.str (pyT (.tup [.tup (rs.map rcD), esD es])).shown)) : RC G (rRepr G.K) [.tup [.tup (rs.map rcD), esD es]] Q := by
  refine rc_repr 7 (ok_tup (n := 6) fun d hd => ?_) ?_ ?_ q
  · have h2 : d = .tup (rs.map rcD) ∨ d = esD es := by simpa using hd
    rcases h2 with rfl | rfl
    · exact ok_rcs hr
    · exact ok_esD he
  · rw [shD]
    refine shDs_all.mpr fun d hd => ?_
    have h2 : d = .tup (rs.map rcD) ∨ d = esD es := by simpa using hd
    rcases h2 with rfl | rfl
    · exact sh_map fun r hr' => sh_rc (hs r hr')
    · exact sh_map fun e _ => sh_en e
  · have h1 := wt_tupmap (f := rcD) fun r hr' => wt_rc (hr r hr').deed.en (hs r hr')
    have h2 : (pyT (esD es)).weight ≤ es.length * 4531 := wt_tupmap (f := enD) fun e he' => wt_en (he e he')
    rw [wt_tup]
    simp only [pyTs, PyData.weightAll]
    omega
/-- repr((entries, records)) -/
theorem rc_reprER {bases cons : List Str} {rs : List Rc} {es : List En} {Q : D → Prop} (hr : ∀ r ∈ rs, RcOk bases cons r) (hs : ∀ r ∈ rs, RcSm r) (he : ∀ e ∈ es, EnOk e) (hz : rs.length + es.length ≤ 220) (q : Q (.str (pyT (.tup [esD es, .tup (rs.map rcD)])).shown)) : RC G (rRepr G.K) [.tup [esD es, .tup (rs.map rcD)]] Q := by
  refine rc_repr 7 (ok_tup (n := 6) fun d hd => ?_) ?_ ?_ q
  · have h2 : d = esD es ∨ d = .tup (rs.map rcD) := by simpa using hd
    rcases h2 with rfl | rfl
    · exact ok_esD he
    · exact ok_rcs hr
  · rw [shD]
    refine shDs_all.mpr fun d hd => ?_
    have h2 : d = esD es ∨ d = .tup (rs.map rcD) := by simpa using hd
    rcases h2 with rfl | rfl
    · exact sh_map fun e _ => sh_en e
    · exact sh_map fun r hr' => sh_rc (hs r hr')
  · have h1 := wt_tupmap (f := rcD) fun r hr' => wt_rc (hr r hr').deed.en (hs r hr')
    have h2 : (pyT (esD es)).weight ≤ es.length * 4531 := wt_tupmap (f := enD) fun e he' => wt_en (he e he')
    rw [wt_tup]
    simp only [pyTs, PyData.weightAll]
    omega
theorem wt_nms {xs : List Str} (h : NmsOk xs) : (pyT (pD xs)).weight ≤ 900 := by
  have := wt_tupmap (f := D.str) fun x hx => wt_nm (h.nm x hx)
  exact Nat.le_trans this (Nat.mul_le_mul_right 9 h.short)
theorem oD_ok {n : Nat} {bases : List Str} {r : Option Str} (h : roleOk bases r) (hb : NmsOk bases) : okD n (oD r) = true ∧ shD (oD r) = true ∧ (pyT (oD r)).weight ≤ 8 := by
  cases r with
  | none => exact ⟨ok_non, by simp [oD, shD], by simp [oD, pyT, PyData.weight]⟩
  | some x => exact ⟨ok_str (hb.ok x (h x rfl)), by simp [oD, shD], wt_nm (hb.nm x (h x rfl))⟩
/-- repr((bases, constructors, number, quote, truth)) -/
theorem rc_reprL {L : Lby} {Q : D → Prop} (ok : LbOk L) (q : Q (.str (pyT (.tup [pD L.bases, pD L.cons, oD L.nu, oD L.qu, oD L.tr])).shown)) : RC G (rRepr G.K) [.tup [pD L.bases, pD L.cons, oD L.nu, oD L.qu, oD L.tr]] Q := by
  obtain ⟨a1, a2, a3⟩ := oD_ok (n := 6) ok.nu ok.bc.b
  obtain ⟨b1, b2, b3⟩ := oD_ok (n := 6) ok.qu ok.bc.b
  obtain ⟨c1, c2, c3⟩ := oD_ok (n := 6) ok.tr ok.bc.b
  refine rc_repr 7 (ok_tup (n := 6) fun d hd => ?_) ?_ ?_ q
  · have h2 : d = pD L.bases ∨ d = pD L.cons ∨ d = oD L.nu ∨ d = oD L.qu ∨ d = oD L.tr := by simpa using hd
    rcases h2 with rfl | rfl | rfl | rfl | rfl
    · exact ok_pD (n := 5) ok.bc.b.ok
    · exact ok_pD (n := 5) ok.bc.c.ok
    · exact a1
    · exact b1
    · exact c1
  · rw [shD]
    refine shDs_all.mpr fun d hd => ?_
    have h2 : d = pD L.bases ∨ d = pD L.cons ∨ d = oD L.nu ∨ d = oD L.qu ∨ d = oD L.tr := by simpa using hd
    rcases h2 with rfl | rfl | rfl | rfl | rfl
    · exact sh_pD _
    · exact sh_pD _
    · exact a2
    · exact b2
    · exact c2
  · have h1 := wt_nms ok.bc.b
    have h2 := wt_nms ok.bc.c
    rw [wt_tup]
    simp only [pyTs, PyData.weightAll]
    omega
end
end

section
set_option Elab.async false
set_option autoImplicit false
set_option linter.all false
set_option maxRecDepth 100000
set_option maxHeartbeats 4000000
open PySem PySem.Spec PyProof.Rows L2
section
variable {P : Program} {w : World} {A : Around} {E : Value → Shared → Prop} {s : Shared}
theorem set_of_ints {l : Addr} {items : Array Value} (ns : List Int) {Q : Value → Shared → Prop} (hh : A.handled = none) (hl : s.heap.IsList l items) (hit : IntsAre items.toList ns) (hb : ns.length + 1 < scanBound)
    (h : ∀ (h' : Heap) (tk c : Nat), SetR w h' s.heap.objs.size (fun j => decide (j ∈ ns)) c → c ≤ ns.length → (∀ b o, s.heap.get? b = some o → h'.get? b = some o) → Q (.ref s.heap.objs.size) { s with heap := h', toks := tk }) : wpAny (model P w) A (call (.type "set") [.ref l]) Q E s := by
  have nitems : items.size = ns.length := by
    have q := IntsAre.length hit
    rwa [Array.length_toList] at q
  obtain ⟨c, tl, hmro⟩ := F.called_set.mro
  have hmade := F.called_set.made
  have hsub := F.called_set.sub
  refine wpAny_call (codeAny_of_tree ?_)
  show wpAny _ _ (callAny (.type "set") _) _ _ _
  refine wpAny_pure ⟨Code.quiet_builtin _ (by decide +kernel), codeAny_builtin F.entry_type_call ?_⟩
  rw [Around.under_plain (weight_type_call_type "set" [.ref l] []) rfl]
  have h1 := F.called_set.notType
  have h2 := F.called_set.canCreate
  have hct := F.typeCall_set_1 (.ref l)
  repeat (any_goals (first | assumption | wp_step))
  refine codeAny_mono (code_set_led1 (.ref l) (E := E) (Q₁ := fun obj s₁ => obj = .ref s.heap.objs.size ∧ s₁ = { s with heap := s.heap.push { cls := .type "set", dict := none, data := .set #[] 0 (.fresh 0 0 (!w.params.followText "set-order")) } }) ⟨rfl, rfl⟩) fun r s₁ hr => ?_
  cases r with
  | error e => exact hr
  | ok fl =>
    cases fl with
    | ret obj =>
      obtain ⟨rfl, rfl⟩ := hr
      have hS : (s.heap.push { cls := .type "set", dict := none, data := .set #[] 0 (.fresh 0 0 (!w.params.followText "set-order")) }).get? s.heap.objs.size = some { cls := .type "set", dict := none, data := .set #[] 0 (.fresh 0 0 (!w.params.followText "set-order")) } := Heap.get?_push_size _ rfl
      have hT : Shared.TypeIs { s with heap := s.heap.push { cls := .type "set", dict := none, data := .set #[] 0 (.fresh 0 0 (!w.params.followText "set-order")) } } (.ref s.heap.objs.size) "set" := ⟨_, hS, rfl⟩
      have hli := F.called_set.init.lookup
      have hbi := F.called_set.init.bind (.ref s.heap.objs.size)
      repeat (any_goals (first | assumption | wp_step))
      refine codeAny_mono (codeAny_call_builtin (R := wants (fun r s₂ => r = .none ∧ ∃ h' tk c, s₂ = { s with heap := h', toks := tk } ∧ SetR w h' s.heap.objs.size (fun j => decide (j ∈ ns)) c ∧ c ≤ ns.length ∧ (∀ b o, s.heap.get? b = some o → h'.get? b = some o)) E) F.called_set.init.plain F.entry_set_init (check_set_init_1 hT ?_)) fun r₂ s₂ hr₂ => ?_
      · obtain ⟨⟨ocls, odict, odata, oslots⟩, hol, hcl, nl, hdl⟩ := hl
        simp only at hcl hdl
        subst hcl hdl
        generalize hp1 : s.heap.push { cls := .type "set", dict := none, data := .set #[] 0 (.fresh 0 0 (!w.params.followText "set-order")) } = hp at hS hT ⊢
        have old : ∀ b o, s.heap.get? b = some o → hp.get? b = some o := fun b o e => by
          rw [← hp1]
          exact Heap.get?_push_of_some _ e
        have hz1 : hp.objs.size = s.heap.objs.size + 1 := by rw [← hp1]; exact Heap.size_push ..
        have hol' := old _ _ hol
        have hl1 : hp.IsList l items := ⟨_, hol', rfl, nl, rfl⟩
        have f1 := F.sub_list_set
        have f2 := F.sub_list_frozenset
        have f3 : (Value.type "list" == Value.type "dict") = false := by decide
        unfold Builtin.«set.__init__» noKeywords Builtin.Frozenset.updateFrom
        generalize hPI : pyIter = PI
        wp_walk
        subst hPI
        refine wpAny_pyIter_list hl1 (wpAny_bind (wpAny_runValue ?_))
        have lS : l < s.heap.objs.size := Heap.lt_size hol
        have hh3 : A.in1.in1.in1.handled = none := by simp [hh]
        have fresh : ∀ b, s.heap.objs.size ≤ b → s.heap.get? b = none := fun b hb => by
          cases q : s.heap.get? b with
          | none => rfl
          | some o => exact absurd (Nat.lt_of_lt_of_le (Heap.lt_size q) hb) (Nat.lt_irrefl _)
        have val : ∀ (i : Nat) (v : Value), items[i]? = some v → ∃ k t, ns[i]? = some k ∧ v = .int k t := fun i v hv => by
          have hi : i < ns.length := by
            rw [← nitems]
            exact (Array.getElem?_eq_some_iff.mp hv).1
          obtain ⟨t, e⟩ := IntsAre.int_at hit i v (by rw [Array.getElem?_toList, hv])
          exact ⟨ns[i], t, List.getElem?_eq_getElem hi, by rw [e, List.getD_eq_getElem?_getD, List.getElem?_eq_getElem hi]; rfl⟩
        refine set_update_ints ((Walks.list hh3 _ l (show l ≠ hp.objs.size by rw [hz1]; exact Nat.ne_of_lt (Nat.lt_succ_of_lt lS)) items).toS) s.heap.objs.size (by
          simp only [List.mem_cons, List.not_mem_nil, or_false, not_or]
          rw [hz1]
          exact ⟨Nat.ne_of_lt (Nat.lt_succ_self _), Nat.ne_of_gt lS⟩) ns nitems hb val (items.size - 0) 0 _ (by omega) (Nat.zero_le _) ⟨⟨_, Heap.get?_push_size _ rfl, rfl, rfl⟩, hl1.push _⟩ ?start ?fin
        case start =>
          have g1 : (hp.push { cls := .type "list_iterator", data := .fields #[.ref l, .int 0 0] }).get? s.heap.objs.size = some { cls := .type "set", dict := none, data := .set #[] 0 (.fresh 0 0 (!w.params.followText "set-order")) } := Heap.get?_push_of_some _ hS
          exact ⟨0, Nat.le_refl 0, setR_new_at g1⟩
        case fin =>
          intro s' c' m hc' hS'
          obtain ⟨h', g2, d', tk', os'⟩ := s'
          have eg : g2 = s.gens := m.gens
          have ed : d' = s.drawn := m.drawn
          have eo : os' = s.os := m.os
          subst eg; subst ed; subst eo
          refine wpAny_pure ?_
          show wpAny _ _ (ret Value.none) _ _ _
          rw [nitems] at hc'
          refine wpAny_pure ⟨rfl, h', tk', c', rfl, hS', hc', fun b o e => ?_⟩
          have lb := Heap.lt_size e
          refine m.heap b o (fun z => ?_) (Heap.get?_push_of_some _ (old b o e))
          rcases List.mem_cons.mp z with z | z
          · exact absurd lb (by rw [z]; exact Nat.lt_irrefl _)
          · rw [List.mem_singleton.mp z, hz1] at lb
            exact Nat.lt_irrefl _ (Nat.lt_of_succ_lt lb)
      · cases r₂ with
        | error e => exact hr₂
        | ok fl₂ =>
          cases fl₂ with
          | ret r =>
            obtain ⟨rfl, h', tk, c', rfl, hS', hc', hk'⟩ := hr₂
            repeat (any_goals (first | assumption | wp_step))
            exact h _ _ _ hS' hc' hk'
          | _ => exact hr₂.elim
    | _ => exact hr.elim
end
/-- sorted(set(xs)), xs a list of ints -/
def tSortSet (K : PySem.W.Frag) (ta : TE) : TE := fun σ H Q => ta σ H fun x H1 => ∃ (l : Addr) (ns : List Int), x = V.ref l ∧ SqL K H1 l (ns.map V.int) ∧ ns.length < 60 ∧
  ∀ (ms : List Int) (p : Addr), ms.Pairwise (· < ·) → (∀ k : Int, k ∈ ms ↔ k ∈ ns) → ms.length ≤ ns.length → H1 p = none → Q (.ref p) (upd H1 p (.lst (ms.map V.int)))
section
variable {X : Cx}
theorem pe_sortSet {a : Expr} {ta : TE} {p p2 q pos : Pos} (hh : X.A.handled = none) (hm : X.mg "sorted" = none) (hm2 : X.mg "set" = none) (ha : PE X a ta) (hg : Gl X "sorted" := by rfl) (hg2 : Gl X "set" := by rfl)
    (na : starEach [a] X.env = (false, eval a X.env) :: starEach [] X.env := by rfl) : PE X (.Call (.Name "sorted" p) [.Call (.Name "set" p2) [a] [] q] [] pos) (tSortSet X.K ta) := by
  refine ⟨fun pins s σ H Q I h => ?_⟩
  refine Call_ (ld_blt I hg hm boot_sorted ?_)
  refine PyProof.Rows.callWith_builtin1 (PyProof.Rows.args_cons ?_ rfl) rfl rfl
  refine Call_ (ld_blt I hg2 hm2 PyProof.Rows.boot_set ?_)
  refine PyProof.Rows.callWith_type1 (PyProof.Rows.args_cons (thn (ha.run pins s σ H _ I h) fun v s1 ⟨x, H1, I1, r1, l, ns, ex, hq, hn, k⟩ => PyProof.Rows.args_nil ?_) na) na rfl
  subst ex
  obtain rfl : v = Value.ref l := r1
  obtain ⟨its, r, pl, hz⟩ := I1.list hq
  refine set_of_ints ns hh pl.isList (by simpa using r.ints) (by unfold scanBound; omega) fun h' tk c R hc old => ?_
  refine PyProof.Rows.args_nil ?_
  have I2 : Inv X pins σ H1 { s1 with heap := h', toks := tk } := I1.kept old
  refine sorted_set (s := { s1 with heap := h', toks := tk }) R hh (by omega) fun s' p out d ms kp g o hp hgp hi hs hm hl => ?_
  have hlen : (ms.map V.int).length ≤ sizeLine := by rw [List.length_map, hl, sizeLine_eq]; omega
  have hn : H1 p = none := I2.hok.fresh hp
  have J : Inv X pins σ (upd H1 p (.lst (ms.map V.int))) { s1 with heap := s'.heap, gens := s'.gens, drawn := s'.drawn, toks := s'.toks } :=
    Inv.call (s := { s1 with heap := h', toks := tk }) I2 (ch := []) (Un.laid kp hp hn) (I2.hok.laid kp hp ⟨hlen, out.toList, d, vals_of_ints hi, hgp⟩) (by rw [g]; exact I2.bare) (fun _ z => nomatch z)
  have e : s' = { s1 with heap := s'.heap, gens := s'.gens, drawn := s'.drawn, toks := s'.toks } := by
    cases s'
    cases o
    rfl
  rw [e]
  exact ⟨.ref p, _, J, rfl, k ms p hs (fun j => by rw [hm j]; exact decide_eq_true_iff) (by omega) hn⟩
end
section
variable {S : Sc} {ρ : List Sl} {ta : TE}
theorem wn_sortSet {Q : List D → Prop} (h : WE S ta ρ fun x => ∃ ns : List Int, x = .lst (ns.map D.int) ∧ ns.length < 60 ∧ ∀ ms : List Int, ms.Pairwise (· < ·) → (∀ k : Int, k ∈ ms ↔ k ∈ ns) → ms.length ≤ ns.length → Q (ms.map D.int)) : WN S (tSortSet S.G.K ta) ρ Q := fun σ H R Qv k =>
  h σ H R _ fun v H1 x e1 q1 ⟨ns, ex, hn, hq⟩ => by
    subst ex
    obtain ⟨a, us, rfl, h1, n1, r1⟩ := dq_lst q1
    rw [dql_ints r1] at h1
    refine ⟨a, ns, rfl, SqL.of h1, hn, fun ms p hs hm hl hp => ?_⟩
    exact k p _ _ _ (e1.s p hp) (e1.trans (Ex.new hp)) upd_same (dql_mk ms) (hq ms hs hm hl)
where
  dql_mk {G : Gx} {B : Addr → Prop} {H : Hp} : ∀ ms : List Int, DqL G B H (ms.map V.int) (ms.map D.int)
    | [] => .nil
    | _ :: ms => .cons (.int _) (dql_mk ms)
end
end

section
set_option Elab.async false
set_option autoImplicit false
set_option linter.all false
set_option maxRecDepth 100000
set_option maxHeartbeats 4000000
open PySem PySem.Spec PyProof.Rows L2

def N__law_is_told : List Str := ["base", "parts", "records", "some", "day", "by_name", "due", "entries", "told", "library", "own"]
theorem nd__law_is_told : N__law_is_told.Nodup := by decide +kernel
def t__law_is_told (G : Gx) : TS :=
    (tSeq (tPar 6 7 (tCons (tCall (sp__law_live G) [] E0 (tCons (tVar 2) (tCons (tVar 4) tNil))) (tCons (tCall (sp__law_entries_on G) [] E0 (tCons (tDGet (tVar 1) (tC (.str "entries"))) (tCons (tVar 2) (tCons (tVar 4) tNil)))) tNil)))
    (tSeq (tAsg (tLst (tCons (tCall (sp_live G) [] E0 (tCons (tVar 0) (tCons (tVar 3) (tCons (tVar 4) tNil)))) (tCons (tCall (sp_library_on G) [] E0 (tCons (tVar 0) (tCons (tVar 3) (tCons (tVar 4) tNil)))) tNil))) (gName 8))
    (tSeq (tIfS (tB (tVar 5)) (tAsg (tLst (tCons (tCallR 3 (sp_live G) (tCons (tVar 4) (tCons (tVar 3) (tCons (tVar 0) tNil)))) (tCons (tCallR 3 (sp_library_on G) (tCons (tVar 4) (tCons (tVar 3) (tCons (tVar 0) tNil)))) tNil))) (gName 8)) tNext)
    (tSeq (tPar 9 10 (tCons (tOp (rIx G.K) (tVar 8) (tC (.int 1))) (tCons (tCall (sp__law_library G) [] E0 (tCons (tVar 1) (tCons (tVar 7) tNil))) tNil)))
    (tSeq (tIfS (tOr (tTest (tOp rNe (tCB (rRepr G.K) (tCons (tTup (tCons (tOp (rIx G.K) (tVar 8) (tC (.int 0))) (tCons (tProp (lbC G) (getSp (lbC G) "sorted_entries") [] E0 (tVar 9)) tNil))) tNil)) (tCB (rRepr G.K) (tCons (tTup (tCons (tVar 6) (tCons (tVar 7) tNil))) tNil)))) (tNot (tTest (tOp (rEqI (lbC G) (sp_leq G)) (tVar 9) (tVar 10))))) (tRet (tC (.bl false))) tNext)
    (tRet (tOp rEq (tCB (rRepr G.K) (tCons (tTup (tCons (tFld G.K (tVar 9) "bases") (tCons (tFld G.K (tVar 9) "constructors") (tCons (tFld G.K (tVar 9) "number") (tCons (tFld G.K (tVar 9) "quote") (tCons (tFld G.K (tVar 9) "truth") tNil)))))) tNil)) (tCB (rRepr G.K) (tCons (tOp (rAddU G.K) (tTup (tCons (tDGet (tVar 1) (tC (.str "bases"))) (tCons (tDGet (tVar 1) (tC (.str "constructors"))) tNil))) (tCB (rTupU G.K) (tCons (tDGet (tVar 1) (tC (.str "roles"))) tNil))) tNil)))))))))
end

section
set_option Elab.async false
set_option autoImplicit false
set_option linter.all false
set_option maxRecDepth 100000
set_option maxHeartbeats 4000000
open PySem PySem.Spec PyProof.Rows L2

def N_law : List Str := ["script", "deck", "turn", "parts", "base", "names", "pool", "days", "records", "shown", "day", "until", "some", "go", "record"]
theorem nd_law : N_law.Nodup := by decide +kernel
def t_law (G : Gx) : TS :=
    (tSeq (tAsg (tCall (spDkA G) [] E0 (tCons (tVar 0) tNil)) (gName 1))
    (tSeq (tFor (iRng1 (tCons (tC (.int 2)) tNil)) (gName 2) (tSeq (tAsg (tCall (sp__law_parts G) [] E0 (tCons (tVar 1) (tCons (tOp (rAddU G.K) (tC (.int 1)) (tCall (sp__law_draw G) [] E0 (tCons (tVar 1) (tCons (tC (.int 5)) tNil)))) tNil))) (gName 3))
    (tSeq (tAsg (tTup (tCons (tCall (sp__law_library G) [] E0 (tCons (tVar 3) (tCons (tDGet (tVar 3) (tC (.str "entries"))) tNil))) (tCons (tDGet (tVar 3) (tC (.str "names"))) tNil))) (gTup G.K 2 (gCons (gName 4) (gCons (gName 5) gNil))))
    (tSeq (tAsg (tOp (rAddU G.K) (tCB (rLstU G.K) (tCons (tDGet (tVar 3) (tC (.str "entries"))) tNil)) (tLc (iRng1 (tCons (tOp (rAddU G.K) (tC (.int 1)) (tCall (sp__law_draw G) [] E0 (tCons (tVar 1) (tCons (tC (.int 4)) tNil)))) tNil)) (gName 13) tYes (tCall (sp__law_entry G) [] E0 (tCons (tVar 1) (tCons (tSl (rSlU G.K) (tVar 5) (tPart (tC (.int 6))) (tPart (tC (.int 9)))) (tCons (tDGet (tVar 3) (tC (.str "bases"))) (tCons (tDGet (tVar 3) (tC (.str "constructors"))) tNil))))) [13])) (gName 6))
    (tSeq (tAsg (tOp (rAddU G.K) (tVar 6) (tLc (iRng1 (tCons (tC (.int 2)) tNil)) (gName 13) tYes (tCall (sp__law_like G) [] E0 (tCons (tVar 1) (tCons (tCall (sp__law_pick G) [] E0 (tCons (tVar 1) (tCons (tVar 6) tNil))) (tCons (tVar 3) tNil)))) [13])) (gName 6))
    (tSeq (tAsg (tCall (sp__law_pick G) [] E0 (tCons (tVar 1) (tCons (tLst (tCons (tLst (tCons (tC (.int 0)) (tCons (tC (.int 1)) (tCons (tC (.int 2)) (tCons (tC (.int 3)) (tCons (tC (.int 4)) (tCons (tC (.int 5)) tNil))))))) (tCons (tLst (tCons (tC (.int 3)) tNil)) (tCons (tLst (tCons (tC (.int 0)) (tCons (tC (.int 2)) (tCons (tC (.int 2)) (tCons (tC (.int 7)) (tCons (tC (.int 1000)) tNil)))))) (tCons (tLst (tCons (tC (.int 5)) (tCons (tC (.int 6)) tNil))) tNil))))) tNil))) (gName 7))
    (tSeq (tAsg (tCall (sp__law_drawn_records G) [] E0 (tCons (tVar 1) (tCons (tVar 6) (tCons (tOp (rAddU G.K) (tC (.int 1)) (tCall (sp__law_draw G) [] E0 (tCons (tVar 1) (tCons (tC (.int 4)) tNil)))) (tCons (tCall (sp__law_pick G) [] E0 (tCons (tVar 1) (tCons (tLst (tCons (tC (.int 8)) (tCons (tC (.int 12)) (tCons (tC (.int 16)) (tCons (tC (.int 3)) (tCons (tC (.int 0)) tNil)))))) tNil))) (tCons (tVar 7) tNil)))))) (gName 8))
    (tSeq (tAsg (tCB (rRepr G.K) (tCons (tTup (tCons (tProp (lbC G) (getSp (lbC G) "sorted_entries") [] E0 (tVar 4)) (tCons (tVar 8) tNil))) tNil)) (gName 9))
    (tSeq (tFor (iSeq G.K (tSortSet G.K (tOp (rAddU G.K) (tVar 7) (tLst (tCons (tC (.int 0)) (tCons (tCB (rMinU) (tCons (tC (.int 1000)) (tCons (tOp (rAddU G.K) (tOp (rIx G.K) (tVar 7) (tUn (rU fun i => .int (-i)) (tC (.int 1)))) (tC (.int 1))) tNil))) (tCons (tCall (sp__law_draw G) [] E0 (tCons (tVar 1) (tCons (tC (.int 9)) tNil))) tNil))))))) (gName 10) (tSeq (tAsg (tCB (rTupU G.K) (tCons (tLc (iSeq G.K (tVar 8)) (gName 14) (tTest (tOp rLeU (tOp (rIx G.K) (tVar 14) (tC (.int 2))) (tVar 10))) (tVar 14) [14]) tNil)) (gName 11))
    (tSeq (tAsg (tCall (sp__law_pick G) [] E0 (tCons (tVar 1) (tCons (tLst (tCons (tVar 8) (tCons (tCB (rTupU G.K) (tCons (tCall (sp__law_some G) [] E0 (tCons (tVar 1) (tCons (tVar 8) (tCons (tCB (rLenU G.K) (tCons (tVar 8) tNil)) tNil)))) tNil)) (tCons (tVar 11) tNil)))) tNil))) (gName 12))
    (tIfS (tNot (tB (tCall (sp__law_is_told G) [] E0 (tCons (tVar 4) (tCons (tVar 3) (tCons (tVar 8) (tCons (tVar 12) (tCons (tVar 10) (tCons (tOp (rEqD G.K) (tCall (sp__law_draw G) [] E0 (tCons (tVar 1) (tCons (tC (.int 2)) tNil))) (tC (.int 0))) tNil))))))))) (tRet (tC (.bl false))) tNext))))
    (tIfS (tTest (tOp rNe (tCB (rRepr G.K) (tCons (tTup (tCons (tProp (lbC G) (getSp (lbC G) "sorted_entries") [] E0 (tVar 4)) (tCons (tVar 8) tNil))) tNil)) (tVar 9))) (tRet (tC (.bl false))) tNext))))))))))
    (tRet (tC (.bl true)))))
end

section
set_option Elab.async false
set_option autoImplicit false
set_option linter.all false
set_option maxRecDepth 100000
set_option maxHeartbeats 4000000
open PySem PySem.Spec PyProof.Rows L2
theorem sc__law_is_told : FnScope N__law_is_told ["base", "parts", "records", "some", "day", "by_name"] (defScope s__law_is_told) := ⟨rfl, rfl, rfl, nd__law_is_told, rfl, by decide +kernel, by decide +kernel⟩
theorem ok__law_is_told {G : Gx} {mg : Str → Option Value} {base : Heap} (T : Txt G.K mg) (X : LbT G.K) (Y : LbQ G.K) (he : EqOk G mg base) (h__law_entries_on : Dfn G.P G.w G.K mg base "_law_entries_on" ["entries", "records", "day"] 9 (sp__law_entries_on G)) (h__law_library : Dfn G.P G.w G.K mg base "_law_library" ["parts", "entries"] 12 (sp__law_library G)) (h__law_live : Dfn G.P G.w G.K mg base "_law_live" ["records", "day"] 8 (sp__law_live G)) (h_library_on : Dfn G.P G.w G.K mg base "library_on" ["base", "records", "day"] 13 (sp_library_on G)) (h_live : Dfn G.P G.w G.K mg base "live" ["base", "records", "day"] 11 (sp_live G)) (hR_live : DfnR G.P G.w G.K mg base "live" ["base", "records", "day"] ["day", "records", "base"] 11 (sp_live G)) (hR_library_on : DfnR G.P G.w G.K mg base "library_on" ["base", "records", "day"] ["day", "records", "base"] 13 (sp_library_on G))
    (law : ∀ (B : Addr → Prop) (H : Hp) (ds : List D) (Q0 : D → Prop), ds.length = 6 → F__law_is_told (lbC G) ds Q0 → WS ⟨G, B, H⟩ (t__law_is_told G) (ent 11 ds) { nx := fun _ => Q0 .non, rt := Q0 }) : DfnG G.P G.w G.K mg base "_law_is_told" ["base", "parts", "records", "some", "day", "by_name"] 14 (sp__law_is_told G) := by
  obtain ⟨pP, gP, fdP, hpP, FP, hbP⟩ := ok_ent (P := G.P) (w := G.w) (mg := mg) (base := base) X
  have hEs := Y.find
  have hEf := Y.isf
  obtain ⟨fdE, hEb, hEF⟩ := he
  obtain ⟨fd, F, hm⟩ := T.d__law_is_told
  refine ⟨_, fd, hm, F.kp, F.bindsN (fun _ _ _ _ _ _ us hl => match us, hl with | [_, _, _, _, _, _], _ => rfl), FnG.of F sc__law_is_told spD_len (fun cdv A outer s H vs Q E hG hr h => ⟨t__law_is_told G, PSs.nox ?_, body_of (N := N__law_is_told) (n := 6) (by decide) law h⟩)⟩
  exact (pss_cons (ps_par (i := 6) (j := 7) rfl nd__law_is_told rfl rfl (by decide) rfl rfl (pa_cons (pe_callD h__law_live (hr.mono (by decide)) (pa_cons (pv 2) (pa_cons (pv 4) pa_nil))) (pa_cons (pe_callD h__law_entries_on (hr.mono (by decide)) (pa_cons (pe_dget (hu_of hr) (pv 1) pe_str (fun _ _ => rfl)) (pa_cons (pv 2) (pa_cons (pv 4) pa_nil)))) pa_nil)) (by rfl))
      (pss_cons (ps_set (i := 8) nd__law_is_told rfl (Or.inl rfl) (pe_lst (pa_cons (pe_callD h_live (hr.mono (by decide)) (pa_cons (pv 0) (pa_cons (pv 3) (pa_cons (pv 4) pa_nil)))) (pa_cons (pe_callD h_library_on (hr.mono (by decide)) (pa_cons (pv 0) (pa_cons (pv 3) (pa_cons (pv 4) pa_nil)))) pa_nil))))
      (pss_cons (ps_if (pt_val (pv 5)) (pss_one (ps_set (i := 8) nd__law_is_told rfl (Or.inl rfl) (pe_lst (pa_cons (pe_callR hR_live (hr.mono (by decide)) (pk_cons (pv 4) (pk_cons (pv 3) (pk_cons (pv 0) pk_nil)))) (pa_cons (pe_callR hR_library_on (hr.mono (by decide)) (pk_cons (pv 4) (pk_cons (pv 3) (pk_cons (pv 0) pk_nil)))) pa_nil))))) pss_nil)
      (pss_cons (ps_par (i := 9) (j := 10) rfl nd__law_is_told rfl rfl (by decide) rfl rfl (pa_cons (pe_ix ix_seq (pv 8) pe_int (fun _ _ => rfl)) (pa_cons (pe_callD h__law_library (hr.mono (by decide)) (pa_cons (pv 1) (pa_cons (pv 7) pa_nil))) pa_nil)) (by rfl))
      (pss_cons (ps_if (PW.pt (pw_or (pt_cmpR op_ne (pe_callB (cr_repr hG hr.units) (by rfl) T.free_repr (by decide +kernel) (pa_cons (pe_tup (pa_cons (pe_ix ix_seq (pv 8) pe_int (fun _ _ => rfl)) (pa_cons (pe_prop (pv 9) X.k.cls hpP FP (hr.mono (by decide)) hbP .nil pass0 rfl) pa_nil))) pa_nil)) (pe_callB (cr_repr hG hr.units) (by rfl) T.free_repr (by decide +kernel) (pa_cons (pe_tup (pa_cons (pv 6) (pa_cons (pv 7) pa_nil))) pa_nil)) (nomark _)) (pw_or1 (pt_not (pt_cmpR (op_eqI hEs hEf hEb hEF (hr.mono (by decide))) (pv 9) (pv 10) (nomark _)))))) (pss_one (ps_ret pe_bl)) pss_nil)
      (pss_one (ps_ret (pe_cmpR op_eq (pe_callB (cr_repr hG hr.units) (by rfl) T.free_repr (by decide +kernel) (pa_cons (pe_tup (pa_cons (pe_fld (pv 9) rfl) (pa_cons (pe_fld (pv 9) rfl) (pa_cons (pe_fld (pv 9) rfl) (pa_cons (pe_fld (pv 9) rfl) (pa_cons (pe_fld (pv 9) rfl) pa_nil)))))) pa_nil)) (pe_callB (cr_repr hG hr.units) (by rfl) T.free_repr (by decide +kernel) (pa_cons (pe_op op_addU (pe_tup (pa_cons (pe_dget (hu_of hr) (pv 1) pe_str (fun _ _ => rfl)) (pa_cons (pe_dget (hu_of hr) (pv 1) pe_str (fun _ _ => rfl)) pa_nil))) (pe_callTy call_tuple_of (by rfl) T.free_tuple (by decide +kernel) (pa_cons (pe_dget (hu_of hr) (pv 1) pe_str (fun _ _ => rfl)) pa_nil))) pa_nil)) (nomark _)))))))))
end

section
set_option Elab.async false
set_option autoImplicit false
set_option linter.all false
set_option maxRecDepth 100000
set_option maxHeartbeats 4000000
open PySem PySem.Spec PyProof.Rows L2
section
variable {G : Gx} {B : Addr → Prop} {H : Hp}
theorem rd_neSame (n : Nat) {x : D} {Q : D → Prop} (hx : okD n x = true) (h : Q (.bl false)) (hn : n ≤ 50 := by decide) : RD G (rNeD G.K) x x Q := rd_ne n hx hx (by rw [eqD_same hx]; exact h) hn
theorem rd_neStr {x : Str} {Q : D → Prop} (h : Q (.bl false)) : RD G rNe (.str x) (.str x) Q := fun Bh H vx vy al hx hy Qv k => by
  rw [dq_str hx, dq_str hy]
  refine ⟨rfl, ?_⟩
  rw [decide_eq_true rfl]
  exact k _ H _ (Ex.refl H) (.bl false) h
theorem rd_eqStr {x : Str} {Q : D → Prop} (h : Q (.bl true)) : RD G rEq (.str x) (.str x) Q := fun Bh H vx vy al hx hy Qv k => by
  rw [dq_str hx, dq_str hy]
  refine ⟨rfl, ?_⟩
  rw [decide_eq_true rfl]
  exact k _ H _ (Ex.refl H) (.bl true) h
theorem rd_eqSame (n : Nat) {x : D} {Q : D → Prop} (hx : okD n x = true) (h : Q (.bl true)) (hn : n ≤ 50 := by decide) : RD G (rEqD G.K) x x Q := rd_eq n hx hx (by rw [eqD_same hx]; exact h) hn
theorem law_leq (hi : ∀ {H : Hp} {a dx : Addr} {fs : List (Str × V)}, H a = some (.ins (lbC G) dx fs) → TyX G.K H (.ref a) (.ref (lbC G))) (hk : PySem.W.kitOne G.K (.ref (lbC G)) (.ref (lbC G)) = some true) (hL : LbK G.K (lbC G)) (ds : List D) (Q : D → Prop) (hl : ds.length = 2) (h : F_leq (lbC G) ds Q) : WS ⟨G, B, H⟩ (t_Library___eq__ G) (ent 2 ds) { nx := fun _ => Q .non, rt := Q } := by
  obtain ⟨L, rfl, ok, q⟩ := h
  have oe : ∀ e ∈ L.es, EnOk e := fun e he => (ok.es e he).ok
  unfold t_Library___eq__
  walk_at "ws"
  refine we_adr ?_
  walk_at "ws"
  refine rc_isiC hi hk ⟨_, rfl, iff_ ?_⟩
  walk_at "ws"
  refine we_fld ?_
  walk_at "ws"
  refine ⟨_, _, _, rfl, hL.cls, hL.no _ (by simp), rfl, ?_⟩
  refine we_fld ?_
  walk_at "ws"
  refine ⟨_, _, _, rfl, hL.cls, hL.no _ (by simp), rfl, ?_⟩
  refine rd_neSame 1 (ok_pD ok.bc.b.ok) ⟨_, rfl, iff_ ?_⟩
  walk_at "ws"
  refine we_fld ?_
  walk_at "ws"
  refine ⟨_, _, _, rfl, hL.cls, hL.no _ (by simp), rfl, ?_⟩
  refine we_fld ?_
  walk_at "ws"
  refine ⟨_, _, _, rfl, hL.cls, hL.no _ (by simp), rfl, ?_⟩
  refine rd_neSame 1 (ok_pD ok.bc.c.ok) ⟨_, rfl, iff_ ?_⟩
  walk_at "ws"
  refine ⟨rfl, L, rfl, ?_⟩
  walk_at "ws"
  refine ⟨rfl, L, rfl, ?_⟩
  refine rd_eqSame 1 (ok_tup (n := 0) fun d hd => ?_) ⟨_, rfl, ift ?_⟩
  · have h2 : d = oD L.nu ∨ d = oD L.qu ∨ d = oD L.tr := by simpa using hd
    rcases h2 with rfl | rfl | rfl
    · exact (oD_ok ok.nu ok.bc.b).1
    · exact (oD_ok ok.qu ok.bc.b).1
    · exact (oD_ok ok.tr ok.bc.b).1
  walk_at "ws"
  refine we_fld ?_
  walk_at "ws"
  refine ⟨_, _, _, rfl, hL.cls, hL.no _ (by simp), rfl, ?_⟩
  refine we_fld ?_
  walk_at "ws"
  refine ⟨_, _, _, rfl, hL.cls, hL.no _ (by simp), rfl, ?_⟩
  exact rd_eqSame 6 (ok_esD oe) q
end
end

section
set_option Elab.async false
set_option autoImplicit false
set_option linter.all false
set_option maxRecDepth 100000
set_option maxHeartbeats 4000000
open PySem PySem.Spec PyProof.Rows L2
section
variable {G : Gx} {B : Addr → Prop} {H : Hp}
theorem law_is_told (hi : ∀ {H : Hp} {a dx : Addr} {fs : List (Str × V)}, H a = some (.ins (lbC G) dx fs) → TyX G.K H (.ref a) (.ref (lbC G))) (hL : LbK G.K (lbC G)) (ds : List D) (Q : D → Prop) (hl : ds.length = 6) (h : F__law_is_told (lbC G) ds Q) : WS ⟨G, B, H⟩ (t__law_is_told G) (ent 11 ds) { nx := fun _ => Q .non, rt := Q } := by
  obtain ⟨L, names, rs, ss, day, byn, rfl, ok, so, hz, hr, sm, hs, hd, q⟩ := h
  obtain ⟨hr2, lz⟩ := recs_some hr hs
  have el : liveR ss day = liveR rs day := live_some hr.nd hs
  have ed : dayL L ss day = dayL L rs day := by unfold dayL dayE; rw [el]
  have hll := liveR_len rs day
  have oe : ∀ e ∈ L.es, EnOk e := fun e he => (ok.es e he).ok
  have okd := dayE_day ok hr hz day
  have lmem : ∀ r ∈ liveR rs day, r ∈ rs := fun r h => liveR_mem h
  have pe := srt_perm leE (dayE L.es rs day)
  have okday : LbOk (dayL L rs day) := ⟨okd.bc, fun e he => okd.es e (pe.mem_iff.mp he), okd.nc.perm pe.symm, okd.nu, okd.qu, okd.tr, by rw [show (dayL L rs day).es.length = (dayE L.es rs day).length from pe.length_eq]; exact okd.short⟩
  have tail : WS ⟨G, B, H⟩ (tSeq (tPar 9 10 (tCons (tOp (rIx G.K) (tVar 8) (tC (.int 1))) (tCons (tCall (sp__law_library G) [] E0 (tCons (tVar 1) (tCons (tVar 7) tNil))) tNil)))
    (tSeq (tIfS (tOr (tTest (tOp rNe (tCB (rRepr G.K) (tCons (tTup (tCons (tOp (rIx G.K) (tVar 8) (tC (.int 0))) (tCons (tProp (lbC G) (getSp (lbC G) "sorted_entries") [] E0 (tVar 9)) tNil))) tNil)) (tCB (rRepr G.K) (tCons (tTup (tCons (tVar 6) (tCons (tVar 7) tNil))) tNil)))) (tNot (tTest (tOp (rEqI (lbC G) (sp_leq G)) (tVar 9) (tVar 10))))) (tRet (tC (.bl false))) tNext)
    (tRet (tOp rEq (tCB (rRepr G.K) (tCons (tTup (tCons (tFld G.K (tVar 9) "bases") (tCons (tFld G.K (tVar 9) "constructors") (tCons (tFld G.K (tVar 9) "number") (tCons (tFld G.K (tVar 9) "quote") (tCons (tFld G.K (tVar 9) "truth") tNil)))))) tNil)) (tCB (rRepr G.K) (tCons (tOp (rAddU G.K) (tTup (tCons (tDGet (tVar 1) (tC (.str "bases"))) (tCons (tDGet (tVar 1) (tC (.str "constructors"))) tNil))) (tCB (rTupU G.K) (tCons (tDGet (tVar 1) (tC (.str "roles"))) tNil))) tNil)))))) [.d (lbD (lbC G) L), .d (partsD L names), .d (.tup (rs.map rcD)), .d (.tup (ss.map rcD)), .d (.int day), .d (.bl byn), .d (.tup ((liveR rs day).map rcD)), .d (esD (srtE (dayE L.es rs day))), .d (.lst [.tup ((liveR rs day).map rcD), lbD (lbC G) (dayL L rs day)]), .no, .no] { nx := fun _ => Q .non, rt := Q } := by
    walk_at "ws"
    refine rd_ixL (d := lbD (lbC G) (dayL L rs day)) rfl ?_
    walk_at "ws"
    refine ⟨rfl, L, names, srtE (dayE L.es rs day), rfl, okday, ?_⟩
    walk_at "ws"
    refine rd_ixL (d := .tup ((liveR rs day).map rcD)) rfl ?_
    walk_at "w"
    refine we_prop (S := ⟨G, B, H⟩) ?_
    walk_at "ws"
    refine ⟨_, _, rfl, rfl, ?_⟩
    walk_at "ws"
    refine ⟨by simp [sizeLine_eq], ?_⟩
    walk_at "ws"
    refine rc_reprRE (bases := L.bases) (cons := L.cons) (fun r h => hr.ok r (lmem r h)) (fun r h => sm r (lmem r h)) (fun e h => (okday.es e h).ok) (by have := (show (srtE (dayE L.es rs day)).length ≤ 100 from okday.short); have := (show (dayL L rs day).es.length ≤ 100 from okday.short); omega) ?_
    walk_at "ws"
    refine ⟨by simp [sizeLine_eq], ?_⟩
    walk_at "ws"
    refine rc_reprRE (bases := L.bases) (cons := L.cons) (fun r h => hr.ok r (lmem r h)) (fun r h => sm r (lmem r h)) (fun e h => (okday.es e h).ok) (by have := (show (srtE (dayE L.es rs day)).length ≤ 100 from okday.short); have := (show (dayL L rs day).es.length ≤ 100 from okday.short); omega) ?_
    refine rd_neStr ⟨_, rfl, iff_ ?_⟩
    iterate 2 walk_at "w"
    refine we_eqI (S := ⟨G, B, H⟩) ?_
    walk_at "ws"
    have es : lbD (lbC G) (sortd { L with es := srtE (dayE L.es rs day) }) = lbD (lbC G) (dayL L rs day) := by
      unfold sortd dayL
      rw [srtE_idem]
    rw [es]
    refine ⟨_, _, rfl, rfl, dayL L rs day, rfl, okday, ⟨_, rfl⟩, ?_⟩
    refine ⟨_, rfl, iff_ ?_⟩
    walk_at "ws"
    refine we_fld ?_
    walk_at "ws"
    refine ⟨_, _, _, rfl, hL.cls, hL.no _ (by simp), rfl, ?_⟩
    walk_at "ws"
    refine we_fld ?_
    walk_at "ws"
    refine ⟨_, _, _, rfl, hL.cls, hL.no _ (by simp), rfl, ?_⟩
    walk_at "ws"
    refine we_fld ?_
    walk_at "ws"
    refine ⟨_, _, _, rfl, hL.cls, hL.no _ (by simp), rfl, ?_⟩
    walk_at "ws"
    refine we_fld ?_
    walk_at "ws"
    refine ⟨_, _, _, rfl, hL.cls, hL.no _ (by simp), rfl, ?_⟩
    walk_at "ws"
    refine we_fld ?_
    walk_at "ws"
    refine ⟨_, _, _, rfl, hL.cls, hL.no _ (by simp), rfl, ?_⟩
    walk_at "ws"
    refine ⟨by simp [sizeLine_eq], ?_⟩
    walk_at "ws"
    refine rc_reprL (L := dayL L rs day) okday ?_
    walk_at "ws"
    refine ⟨.inr "bases", _, pD L.bases, rfl, rfl, rfl, ?_⟩
    walk_at "ws"
    refine ⟨.inr "constructors", _, pD L.cons, rfl, rfl, rfl, ?_⟩
    walk_at "ws"
    refine ⟨by simp [sizeLine_eq], ?_⟩
    walk_at "ws"
    refine ⟨.inr "roles", _, .lst [oD L.nu, oD L.qu, oD L.tr], rfl, rfl, rfl, ?_⟩
    walk_at "ws"
    refine rc_tupL ?_
    refine rd_addT (by simp [sizeLine_eq]) ?_
    walk_at "ws"
    refine rc_reprL (L := dayL L rs day) okday ?_
    exact rd_eqStr q
  unfold t__law_is_told
  walk_at "ws"
  refine ⟨rfl, rs, day, rfl, by omega, ?_⟩
  walk_at "ws"
  refine ⟨.inr "entries", _, _, rfl, rfl, rfl, ?_⟩
  walk_at "ws"
  refine ⟨rfl, L.es, rs, day, L.bases, L.cons, rfl, hz, oe, hr.ok, ?_⟩
  walk_at "ws"
  refine (wn_lst ?_).e
  walk_at "ws"
  refine ⟨rfl, L, ss, day, rfl, hr2, hd, ?_⟩
  walk_at "ws"
  refine ⟨rfl, L, ss, day, rfl, ok, by omega, hr2, hd, ?_⟩
  rw [el, ed]
  walk_at "ws"
  refine ⟨by simp [sizeLine_eq], ?_⟩
  walk_at "ws"
  refine ifb (fun _ => ?_) fun _ => ?_
  · walk_at "ws"
    refine (wn_lst ?_).e
    walk_at "ws"
    refine we_callR ?_
    walk_at "ws"
    refine ⟨rfl, rfl, L, ss, day, rfl, hr2, hd, ?_⟩
    walk_at "ws"
    refine we_callR ?_
    walk_at "ws"
    refine ⟨rfl, rfl, L, ss, day, rfl, ok, by omega, hr2, hd, ?_⟩
    rw [el, ed]
    walk_at "ws"
    refine ⟨by simp [sizeLine_eq], ?_⟩
    exact tail
  · exact ws_next tail
end
end

section
set_option Elab.async false
set_option autoImplicit false
set_option linter.all false
set_option maxRecDepth 100000
set_option maxHeartbeats 4000000
open PySem PySem.Spec PyProof.Rows L2
/-- what the law is asked: a list of numbers; it gives True -/
def spLaw (G : Gx) : Sp := fun vs H Q _ => ∃ (p : Addr) (xs : List Int), vs = [V.ref p] ∧ SqL G.K H p (xs.map V.int) ∧ G.tb H ∧ ∀ H', Q (.bl true) H'
section
variable {S : Sc} {ρ : List Sl}
theorem we_deck (i : Nat) {p : Addr} {xs : List Int} {Q : D → Prop} (hi : ρ[i]? = some (.d (.adr p))) (h0 : SqL S.G.K S.H0 p (xs.map V.int)) (q : Q .dk) : WE S (tCall (spDkA S.G) [] E0 (tCons (tVar i) tNil)) ρ Q := fun σ H R Qv k => by
  obtain ⟨v, h1, h2⟩ := R.var hi
  cases h2
  exact ⟨.ref p, h1, p, xs, rfl, sql_ex R.ex h0, R.tb, fun a H' e hd => k (.ref a) H' .dk e (.dk hd) q⟩
end
section
variable {S : Sc} {ρ : List Sl} {wi : TI} {t : TS} {E : DE}
/-- for one name, over items that are known when they are there -/
theorem ws_forE {α : Type} {j : Nat} (f : α → D) (h : WI S wi ρ fun ds => ∃ (zs : List α) (Iv : List α → List Sl → Prop), ds = zs.map f ∧ Iv [] ρ ∧
    (∀ zp z zq ρ', zs = zp ++ z :: zq → Iv zp ρ' → WS S t (ρ'.set j (.d (f z))) { E with nx := Iv (zp ++ [z]), ct := Iv (zp ++ [z]), bk := E.nx }) ∧ ∀ ρ', Iv zs ρ' → E.nx ρ') : WS S (tFor wi (gName j) t) ρ E :=
  ws_for (js := [j]) fun σ H R Rr k => h σ H R Rr fun J H' vs es ds e q dw sz ⟨zs, Iv, ed, h0, hs, hd⟩ => k J H' vs es ds e q dw sz (by
    subst ed
    refine ⟨fun pre ρ' => Iv (zs.take pre.length) ρ', h0, fun pre x post ρ' e2 hI => ?_, fun ρ' hI => hd ρ' (by
      have hI' : Iv (zs.take (zs.map f).length) ρ' := hI
      rwa [List.length_map, List.take_length] at hI')⟩
    obtain ⟨zp, z, zq, e4, e5, e6, _⟩ := map_split e2
    obtain ⟨t1, t2⟩ := take_pre e4 e5 x
    have hI' : Iv (zs.take pre.length) ρ' := hI
    rw [t1] at hI'
    subst e6
    have w := hs zp z zq ρ' e4 hI'
    rw [← t2] at w
    exact wg_name w)
end
section
variable {G : Gx} {H : Hp}
theorem fits_en {bases cons : List Str} : ∀ {zs : List Nat} {acc : List D}, Fits (fun (_ : Nat) y => ∃ e : En, EnOf bases cons e ∧ y = enD e) zs acc → ∃ es : List En, acc = es.map enD ∧ (∀ e ∈ es, EnOf bases cons e) ∧ es.length = zs.length
  | [], _, h => by
    cases h
    exact ⟨[], rfl, by simp, rfl⟩
  | _ :: _, _, h => by
    cases h with
    | cons h r =>
      obtain ⟨e, he, rfl⟩ := h
      obtain ⟨es, rfl, h2, h3⟩ := fits_en r
      refine ⟨e :: es, rfl, fun x hx => ?_, by rw [List.length_cons, List.length_cons, h3]⟩
      rcases List.mem_cons.mp hx with rfl | hx
      · exact he
      · exact h2 x hx
theorem law_body (hL : LbK G.K (lbC G)) {p : Addr} {xs : List Int} (h0 : SqL G.K H p (xs.map V.int)) : WS ⟨G, fun _ => False, H⟩ (t_law G) (ent 15 [.adr p]) { nx := fun _ => False, rt := fun d => d = .bl true } := by
  unfold t_law
  refine ws_seq (ws_asg (we_deck (S := ⟨G, fun _ => False, H⟩) 0 rfl h0 ?_))
  refine ws_seq (ws_for1 (fun i : Nat => D.int i) (List.range 2) (fun _ ρ => ∃ s2 s3 s4 s5 s6 s7 s8 s9 s10 s11 s12 : Sl, ρ = [.d (.adr p), .d .dk, s2, s3, s4, s5, s6, s7, s8, s9, s10, s11, s12, .no, .no]) (wi_range1 (wa_cons (we_int (wa_nil ⟨2, rfl, by omega, by omega, ?_, ?_, ?_, ?_⟩)))))
  · show (List.range 2).map (fun (i : Nat) => D.int (0 + (i : Int))) = _
    exact List.map_congr_left fun i _ => by rw [Int.zero_add]
  · exact ⟨_, _, _, _, _, _, _, _, _, _, _, rfl⟩
  · rintro zp z zq ρ' ez ⟨s2, s3, s4, s5, s6, s7, s8, s9, s10, s11, s12, rfl⟩
    walk_at "ws"
    refine ⟨rfl, 5, rfl, by omega, by omega, fun k k0 k1 => rd_addI ?_⟩
    obtain ⟨k, rfl⟩ : ∃ n : Nat, k = n := ⟨k.toNat, by omega⟩
    walk_at "ws"
    refine ⟨rfl, 1 + k, by rw [Int.natCast_add]; rfl, by omega, fun L names ok bs so lz N ln => ?_⟩
    walk_at "ws"
    refine ⟨.inr "entries", _, esD L.es, rfl, rfl, rfl, ?_⟩
    walk_at "ws"
    refine ⟨rfl, L, names, L.es, rfl, ok, ?_⟩
    have eL : sortd { L with es := L.es } = L := by
      unfold sortd
      rw [show ({ L with es := L.es } : Lby).es = L.es from rfl, so]
    rw [eL]
    walk_at "ws"
    refine ⟨.inr "names", _, .lst (names.map D.str), rfl, rfl, rfl, ?_⟩
    walk_at "ws"
    refine ⟨line_of (by simp), _, _, rfl, ?_⟩
    refine ws_seq (ws_asg (wn_op ((wn_cb (wa_cons (we_dget (we_var 3 rfl (we_str ⟨.inr "entries", _, esD L.es, rfl, rfl, rfl, wa_nil (rcn_lst rfl ?_)⟩))))).e)).e)
    refine WN.e (wn_lcP (α := Nat) (j := 13) ⟨_, rfl, rfl⟩ (wi_range1 (wa_cons (we_op (we_int (we_call (wa_cons (we_var 1 rfl (wa_cons (we_int (wa_nil ⟨rfl, 4, rfl, by omega, by omega, fun m m0 m1 => rd_addI (wa_nil ⟨_, rfl, by omega, by omega, ?_⟩)⟩)))))))))))
    obtain ⟨m, rfl⟩ : ∃ n : Nat, m = n := ⟨m.toNat, by omega⟩
    refine ⟨List.range (1 + m), fun i => .int (0 + (i : Nat)), fun _ y => ∃ e : En, EnOf L.bases L.cons e ∧ y = enD e, ?_, fun z hz p2 => ?_, fun acc hf => ?_⟩
    · rw [show ((1 : Int) + (m : Int)).toNat = 1 + m by omega]
      rfl
    · refine we_call (S := Sc.in ⟨G, fun _ => False, H⟩ p2) (wa_cons (we_var 1 rfl (wa_cons ((wn_sl (we_var 5 rfl (wo_some (we_int ⟨_, rfl, wo_some (we_int ⟨_, rfl, rsn_lst ?_⟩)⟩)))).e))))
      have c3 : cutD (names.map D.str) (some 6) (some 9) = ((names.drop 6).take 3).map D.str := by
        rw [cutD_map]
        exact congrArg _ (cutD_mid (xs := names) (a := 6) (b := 9) (by omega) (by omega))
      rw [c3]
      have sub : ∀ x ∈ (names.drop 6).take 3, x ∈ names := fun x hx => List.mem_of_mem_drop (List.mem_of_mem_take hx)
      refine wa_cons (we_dget (we_var 3 rfl (we_str ⟨.inr "bases", _, pD L.bases, rfl, rfl, rfl, ?_⟩)))
      refine wa_cons (we_dget (we_var 3 rfl (we_str ⟨.inr "constructors", _, pD L.cons, rfl, rfl, rfl, ?_⟩)))
      refine wa_nil ⟨rfl, (names.drop 6).take 3, L.bases, L.cons, rfl, bs, fun e => ?_, by rw [List.length_take]; omega, fun x hx => ⟨N.nm x (sub x hx), N.nw x (sub x hx), N.ok x (sub x hx)⟩, fun en hen => ⟨en, hen, rfl⟩⟩
      have := congrArg List.length e
      rw [List.length_take, List.length_drop, ln] at this
      simp at this
    · obtain ⟨es1, rfl, he1, hl1⟩ := fits_en hf
      rw [List.length_range] at hl1
      refine rdn_addL (by rw [List.length_map, List.length_map]; exact line_of (by omega)) ?_
      rw [← List.map_append]
      have he : ∀ e ∈ L.es ++ es1, EnOf L.bases L.cons e := fun e he => by
        rcases List.mem_append.mp he with h | h
        · exact ok.es e h
        · exact he1 e h
      have hl : (L.es ++ es1).length ≤ 20 := by rw [List.length_append]; omega
      have hne : L.es ++ es1 ≠ [] := fun e => by
        have := congrArg List.length e
        rw [List.length_append, hl1] at this
        simp at this
      generalize L.es ++ es1 = pool0 at he hl hne
      refine ws_seq (ws_asg (wn_op ?_).e)
      refine we_var 6 rfl ?_
      refine WN.e (wn_lcP (α := Nat) (j := 13) ⟨_, rfl, rfl⟩ (wi_range1 (wa_cons (we_int (wa_nil ⟨2, rfl, by omega, by omega, List.range 2, fun i => .int (0 + (i : Nat)), fun _ y => ∃ e : En, EnOf L.bases L.cons e ∧ y = enD e, rfl, fun z hz p2 => ?_, fun acc2 hf2 => ?_⟩)))))
      · refine we_call (S := Sc.in ⟨G, fun _ => False, H⟩ p2) (wa_cons (we_var 1 rfl (wa_cons (we_call (S := Sc.in ⟨G, fun _ => False, H⟩ p2) (wa_cons (we_var 1 rfl (wa_cons (we_var 6 rfl (wa_nil ⟨rfl, _, pool0.map enD, rfl, rfl, fun e => hne (List.map_eq_nil_iff.mp e), by rw [List.length_map]; omega, fun x hx => ?_⟩)))))))))
        obtain ⟨en, hen, rfl⟩ := List.mem_map.mp hx
        exact wa_cons (we_var 3 rfl (wa_nil ⟨rfl, en, L, names, rfl, bs, he en hen, fun en2 h2 => ⟨en2, h2, rfl⟩⟩))
      · obtain ⟨es2, rfl, he2, hl2⟩ := fits_en hf2
        rw [List.length_range] at hl2
        refine rdn_addL (by rw [List.length_map, List.length_map]; exact line_of (by omega)) ?_
        rw [← List.map_append]
        have hp : ∀ e ∈ pool0 ++ es2, EnOf L.bases L.cons e := fun e h => by
          rcases List.mem_append.mp h with h | h
          · exact he e h
          · exact he2 e h
        have pl : (pool0 ++ es2).length ≤ 22 := by rw [List.length_append]; omega
        have pne : pool0 ++ es2 ≠ [] := fun e => hne (List.append_eq_nil_iff.mp e).1
        generalize pool0 ++ es2 = pool at hp pl pne
        walk_at "ws"
        refine WN.e (wn_lst ?_)
        refine wa_cons (WN.e (wn_lst ?_))
        walk_at "ws"
        refine ⟨line_of (by simp), ?_⟩
        refine wa_cons (WN.e (wn_lst ?_))
        walk_at "ws"
        refine ⟨line_of (by simp), ?_⟩
        refine wa_cons (WN.e (wn_lst ?_))
        walk_at "ws"
        refine ⟨line_of (by simp), ?_⟩
        refine wa_cons (WN.e (wn_lst ?_))
        walk_at "ws"
        refine ⟨line_of (by simp), ?_⟩
        walk_at "ws"
        refine ⟨line_of (by simp), ?_⟩
        walk_at "ws"
        refine ⟨rfl, _, _, rfl, rfl, by simp, by simp, fun x hx => ?_⟩
        obtain ⟨days, rfl, dne, dl, hd⟩ : ∃ days : List Int, x = .lst (days.map D.int) ∧ days ≠ [] ∧ days.length ≤ 6 ∧ ∀ d ∈ days, 0 ≤ d ∧ d ≤ 1000 := by
          have h4 : x = .lst (([0, 1, 2, 3, 4, 5] : List Int).map D.int) ∨ x = .lst (([3] : List Int).map D.int) ∨ x = .lst (([0, 2, 2, 7, 1000] : List Int).map D.int) ∨ x = .lst (([5, 6] : List Int).map D.int) := by simpa using hx
          rcases h4 with rfl | rfl | rfl | rfl
          · exact ⟨_, rfl, by decide, by decide, by decide⟩
          · exact ⟨_, rfl, by decide, by decide, by decide⟩
          · exact ⟨_, rfl, by decide, by decide, by decide⟩
          · exact ⟨_, rfl, by decide, by decide, by decide⟩
        walk_at "ws"
        refine ⟨rfl, 4, rfl, by omega, by omega, fun h g0 g1 => rd_addI ?_⟩
        obtain ⟨h, rfl⟩ : ∃ n : Nat, h = n := ⟨h.toNat, by omega⟩
        walk_at "ws"
        refine WN.e (wn_lst ?_)
        walk_at "ws"
        refine ⟨line_of (by simp), ?_⟩
        walk_at "ws"
        refine ⟨rfl, _, ([8, 12, 16, 3, 0] : List Int).map D.int, rfl, rfl, by decide, by decide, fun x hx2 => ?_⟩
        obtain ⟨many, rfl, hmany⟩ : ∃ many : Nat, x = .int many ∧ many ≤ 16 := by
          obtain ⟨i, hi, rfl⟩ := List.mem_map.mp hx2
          have h5 : i = 8 ∨ i = 12 ∨ i = 16 ∨ i = 3 ∨ i = 0 := by simpa using hi
          exact ⟨i.toNat, by congr 1; omega, by omega⟩
        walk_at "ws"
        refine ⟨rfl, pool, 1 + h, many, days, L.bases, L.cons, by rw [Int.natCast_add]; rfl, pne, by omega, by omega, by omega, by omega, dne, by omega, fun d h => ⟨(hd d h).1, by have := (hd d h).2; omega⟩, hp, fun rs rok rsm rl => ?_⟩
        walk_at "ws"
        refine we_prop (S := ⟨G, fun _ => False, H⟩) ?_
        walk_at "ws"
        refine ⟨_, _, rfl, rfl, ?_⟩
        walk_at "ws"
        refine ⟨by simp [sizeLine_eq], ?_⟩
        walk_at "ws"
        have oe : ∀ e ∈ L.es, EnOk e := fun e he => (ok.es e he).ok
        refine rc_reprER rok.ok rsm oe (by omega) ?_
        refine ws_seq (ws_forE (α := Int) D.int (wi_seq (WN.e (wn_sortSet ?_))))
        refine WN.e (wn_op (we_var 7 rfl (WN.e (wn_lst ?_))))
        walk_at "ws"
        have dlast : ∃ x, atI (days.map D.int) (-1) = some (.int x) ∧ 0 ≤ x ∧ x ≤ 1000 := by
          refine ⟨days.getLast dne, by rw [atI_map, atI_m1 dne]; rfl, hd _ (List.getLast_mem dne)⟩
        obtain ⟨dx, hdx, dx0, dx1⟩ := dlast
        refine rd_ixL hdx ?_
        walk_at "ws"
        refine rd_addI ?_
        walk_at "ws"
        refine rc_min ?_
        walk_at "ws"
        refine ⟨rfl, 9, rfl, by omega, by omega, fun d9 p0 p1 => ?_⟩
        walk_at "ws"
        refine ⟨line_of (by simp), ?_⟩
        refine rdn_addL (by rw [List.length_map]; exact line_of (by simp; omega)) ?_
        refine ⟨days ++ [0, if dx + 1 < 1000 then dx + 1 else 1000, d9], by rw [List.map_append]; rfl, by rw [List.length_append]; simp; omega, fun ms asc mem lm => ?_⟩
        have hms : ∀ y ∈ ms, 0 ≤ y := fun y hy => by
          rcases List.mem_append.mp ((mem y).mp hy) with h | h
          · exact (hd y h).1
          · have h3 : y = 0 ∨ y = (if dx + 1 < 1000 then dx + 1 else 1000) ∨ y = d9 := by simpa using h
            rcases h3 with rfl | rfl | rfl
            · exact Int.le_refl _
            · split <;> omega
            · exact p0
        refine ⟨_, rfl, ms, fun _ ρ => ∃ s10 s11 s12 : Sl, ρ = [.d (.adr p), .d .dk, .d (.int z), .d (partsD L names), .d (lbD (lbC G) L), .d (.lst (names.map D.str)), .d (.lst (pool.map enD)), .d (.lst (days.map D.int)), .d (.tup (rs.map rcD)), .d (.str (pyT (.tup [esD L.es, .tup (rs.map rcD)])).shown), s10, s11, s12, .no, .no], rfl, ⟨_, _, _, rfl⟩, ?_, ?_⟩
        · rintro yp y yq ρ' ey ⟨s10, s11, s12, rfl⟩
          have y0 := hms y (by rw [ey]; simp)
          walk_at "ws"
          refine WN.e (wn_lc1 (α := Rc) (j := 14) ⟨_, rfl, rfl⟩ (wi_seq (we_var 8 rfl ⟨_, rfl, rs, rcD, fun r => if r.day ≤ y then some (rcD r) else none, rfl, fun r hr p2 => ?_, ?_⟩)))
          · walk_at "ws"
            refine rd_ixT (d := .int r.day) rfl ?_
            walk_at "ws"
            refine rd_le ⟨_, rfl, ifd (fun h => ?_) fun h => ?_⟩
            · walk_at "ws"
              exact if_pos h
            · exact if_neg h
          have ef : (rs.filterMap fun r => if r.day ≤ y then some (rcD r) else none) = (rs.filter fun r => decide (r.day ≤ y)).map rcD := fm_filter (fun r : Rc => r.day ≤ y) rcD rs
          rw [ef]
          walk_at "ws"
          refine rc_tupL ?_
          walk_at "ws"
          refine WN.e (wn_lst ?_)
          walk_at "ws"
          refine rc_lenT ?_
          walk_at "ws"
          refine ⟨rfl, _, rs.map rcD, rs.length, by rw [List.length_map], rfl, by rw [List.length_map]; exact Nat.le_refl _, by rw [List.length_map]; omega, fun ys ⟨rest, pm⟩ ly => ?_⟩
          have pr : (rs.map rcD).Perm ys := by
            have e := pm.length_eq
            rw [List.length_map, List.length_append] at e
            have e0 : rest = [] := List.length_eq_zero_iff.mp (by omega)
            rwa [e0, List.append_nil] at pm
          obtain ⟨rs2, ers, prs⟩ := perm_map pr
          subst ers
          walk_at "ws"
          refine rc_tupL ?_
          walk_at "ws"
          refine ⟨line_of (by simp), ?_⟩
          walk_at "ws"
          refine ⟨rfl, _, [.tup (rs.map rcD), .tup (rs2.map rcD), .tup ((rs.filter fun r => decide (r.day ≤ y)).map rcD)], rfl, rfl, by simp, by simp, fun x hx3 => ?_⟩
          obtain ⟨ss, rfl, hss⟩ : ∃ ss : List Rc, x = .tup (ss.map rcD) ∧ (ss.Perm rs ∨ ss = rs.filter fun r => decide (r.day ≤ y)) := by
            have h3 : x = .tup (rs.map rcD) ∨ x = .tup (rs2.map rcD) ∨ x = .tup ((rs.filter fun r => decide (r.day ≤ y)).map rcD) := by simpa only [List.mem_cons, List.not_mem_nil, or_false] using hx3
            rcases h3 with rfl | rfl | rfl
            · exact ⟨rs, rfl, .inl (.refl _)⟩
            · exact ⟨rs2, rfl, .inl prs.symm⟩
            · exact ⟨_, rfl, .inr rfl⟩
          walk_at "ws"
          refine ⟨rfl, 2, rfl, by omega, by omega, fun b b0 b1 => ?_⟩
          walk_at "ws"
          refine rd_eqII ?_
          walk_at "ws"
          refine ⟨rfl, L, names, rs, ss, y, decide (b = 0), rfl, ok, so, by omega, rok, rsm, hss, y0, ?_⟩
          refine ⟨_, rfl, iff_ ?_⟩
          walk_at "ws"
          exact ⟨_, _, _, rfl⟩
        · rintro ρ' ⟨s10, s11, s12, rfl⟩
          walk_at "ws"
          refine we_prop (S := ⟨G, fun _ => False, H⟩) ?_
          walk_at "ws"
          refine ⟨_, _, rfl, rfl, ?_⟩
          walk_at "ws"
          refine ⟨by simp [sizeLine_eq], ?_⟩
          walk_at "ws"
          refine rc_reprER rok.ok rsm oe (by omega) ?_
          walk_at "ws"
          refine rd_neStr ⟨_, rfl, iff_ ?_⟩
          walk_at "ws"
          exact ⟨_, _, _, _, _, _, _, _, _, _, _, rfl⟩
  · rintro ρ' ⟨s2, s3, s4, s5, s6, s7, s8, s9, s10, s11, s12, rfl⟩
    walk_at "ws"
    rfl
theorem law_law (hL : LbK G.K (lbC G)) {vs : List V} {Q : VK} {E : XK} (h : spLaw G vs H Q E) : t_law G { nx := fun _ H' => Q .non H', rt := Q } (L2.start N_law vs) H := by
  obtain ⟨p, xs, rfl, hs, tb, k⟩ := h
  have R0 : Rho G (fun _ => False) H H (L2.start N_law [.ref p]) (ent 15 [.adr p]) := rho_ent (N := N_law) tb (fun _ z => z.elim) (.cons (.adr p) .nil) (show 1 ≤ 15 by decide)
  exact law_body hL hs _ H _ R0 ⟨fun _ _ _ _ _ z => z.elim, fun v H' d e q z => by
    subst z
    rw [dq_bl q]
    exact k H', fun _ _ _ _ _ z => z.elim, fun _ _ _ _ _ z => z.elim⟩
end
end

section
set_option Elab.async false
set_option autoImplicit false
set_option linter.all false
set_option maxRecDepth 100000
set_option maxHeartbeats 4000000
open PySem PySem.Spec PyProof.Rows L2 LamX
section
variable {P : Program} {w : World} {K : PySem.W.Frag} {mg mb : Str → Option Value} {k : Nat} {fa a c T : Addr} {x : Str} {sp : Sp} {s1 : Shared} {vs : List Value} {ns : List Int}
/-- what is tracked when the law is called: the table, and the script if the text does not hold it -/
structure Track (H : Hp) (h : Heap) (a T : Addr) : Prop where
  tab : H T = some (.tbl #[])
  rest : ∀ b, b ≠ T → H b = none ∨ (b = a ∧ ∃ o xs, H b = some (.frz o (.lst xs)))
theorem call_endG (KX : K.In s1.heap) (hns : s1.heap.Ns mainGlobals mg) (hb : s1.heap.Ns builtinsNs mb) (hbb : ∀ y : Str, y ≠ "__name__" → mb y = bootBuiltins y) (hlim : s1.heap.NoLimit) (hg : s1.gens = #[])
    (hT : s1.heap.get? T = some { cls := .none, data := .fields #[] }) (nT : K.lookup T = none) (C : PySem.W.CodeHd s1.heap c T)
    (hbm : ∃ (bm : Addr) (ob : Obj), mg "__builtins__" = some (.ref bm) ∧ bm ≠ builtinsNs ∧ s1.heap.get? bm = some ob ∧ ob.cls = .type "module" ∧ ob.dict = some builtinsNs ∧ ob.data = .plain)
    (ha : s1.heap.get? a = some { cls := .type "list", data := .seq vs.toArray }) (hi : IntsAre vs ns) (hl : ns.length ≤ sizeLine) (hr : Room k callerA)
    (F : ∀ base : Heap, K.In base → base.Ns mainGlobals mg → TabB base mg c T → ∃ fd, BindsTo s1 fd ⟨[.ref a], []⟩ [(x, .ref a)] ∧ FnG P w K mg base k fa fd [x] sp)
    (hsp : ∀ H : Hp, H T = some (.tbl #[]) → SqL K H a (ns.map V.int) → sp [.ref a] H (fun v _ => v = .bl true) E0) :
    codeAny (model P w) callerA (.call (.ref fa) ⟨[.ref a], []⟩) (fun r s' => r = .ok (.ret (.bool true)) ∧ OldK s1.heap s'.heap ∧ s'.os = s1.os ∧ AllBare s'.gens) s1 := by
  have rv := vals_ints hi
  have lenV := hi.length
  have aT : a ≠ T := fun z => by
    rw [z, hT] at ha
    have z' : Data.fields #[] = Data.seq vs.toArray _ := congrArg Obj.data (Option.some.inj ha)
    cases z'
  have core : ∀ H : Hp, Track H s1.heap a T → SqL K H a (ns.map V.int) → HOk P w H s1.heap → (H a ≠ none → K.lookup a = none) →
      codeAny (model P w) callerA (.call (.ref fa) ⟨[.ref a], []⟩) (fun r s' => r = .ok (.ret (.bool true)) ∧ OldK s1.heap s'.heap ∧ s'.os = s1.os ∧ AllBare s'.gens) s1 := by
    intro H t hS hok hK
    have free : ∀ {b : Addr} {o : Obj}, s1.heap.get? b = some o → b ≠ T → (∀ us n, o.data ≠ .seq us n) → H b = none := fun {b o} e nb nd => by
      rcases t.rest b nb with z | ⟨z, _⟩
      · exact z
      · rw [z, ha] at e
        cases e
        exact (nd _ _ rfl).elim
    have offT : ∀ {b : Addr} {o : Obj}, s1.heap.get? b = some o → o.data ≠ .fields #[] → b ≠ T := fun {b o} e nd z => by
      rw [z, hT] at e
      cases e
      exact nd rfl
    have dictF : ∀ {b : Addr} {o : Obj} {es : Array DictEntry} {ep : Nat}, s1.heap.get? b = some o → o.data = .dict es ep → H b = none := fun e d => free e (offT e (by rw [d]; exact fun z => nomatch z)) (fun us n => by rw [d]; exact fun z => nomatch z)
    have nsK : ∀ {b : Addr} {m : Str → Option Value}, s1.heap.Ns b m → (hidT s1.heap H).Ns b m := fun ⟨o, es, ep, e, d, r⟩ => ⟨o, es, ep, hidT_get e (dictF e d), d, r⟩
    have inK : K.In (hidT s1.heap H) := fun b o e => hidT_get (KX b o e) (by
      by_cases bT : b = T
      · rw [bT, nT] at e
        cases e
      · rcases t.rest b bT with z | ⟨z, o', xs, h'⟩
        · exact z
        · rw [z] at e h'
          rw [hK (by rw [h']; exact fun q => nomatch q)] at e
          cases e)
    have hM : L2.Mod K mg (hidT s1.heap H) := ⟨inK, nsK hns, ⟨mb, nsK hb, hbb⟩, let ⟨mc, h1, h2⟩ := hlim; ⟨mc, nsK h1, h2⟩⟩
    have plainF : ∀ {b : Addr} {o : Obj}, s1.heap.get? b = some o → o.data ≠ .fields #[] → (∀ us n, o.data ≠ .seq us n) → (hidT s1.heap H).get? b = some o := fun e n1 n2 => hidT_get e (free e (offT e n1) n2)
    have TB : TabB (hidT s1.heap H) mg c T := by
      refine ⟨?_, ?_, fun z => ?_⟩
      · obtain ⟨o, us, file, tf, flags, tg, inF, text, tt, e1, r1, r2, r3, r⟩ := C
        refine ⟨o, us, file, tf, flags, tg, inF, text, tt, plainF e1 (fun z => ?_) (fun us' n z => ?_), r1, r2, r3, r⟩
        · rw [r2] at z
          cases z
          simp at r3
        · rw [r2] at z
          cases z
      · obtain ⟨bm, ob, b1, b2, b3, b4, b5, b6⟩ := hbm
        refine ⟨bm, ob, b1, b2, fun q => ?_, fun q => ?_, plainF b3 (by rw [b6]; exact fun z => nomatch z) (fun us n => by rw [b6]; exact fun z => nomatch z), b4, b5, b6⟩
        · obtain ⟨o, es, ep, e, hd, _⟩ := hns
          rw [q, e] at b3
          cases b3
          rw [hd] at b6
          cases b6
        · rw [q, hT] at b3
          cases b3
          cases b6
      · obtain ⟨o, es, ep, e, hd, _⟩ := hns
        rw [z, hT] at e
        cases e
        cases hd
    have e0 : Env0 P w K mg (hidT s1.heap H) callerA [] s1 H := ⟨rfl, hM, fun b o e => of_hidT e, Nat.le_of_eq (hidT_size _ _), trivial, fun b hb => (nomatch hb), hok, .of_eq hg⟩
    obtain ⟨fd, hbind, hF⟩ := F _ inK (nsK hns) TB
    refine codeAny_mono (hF.run callerA [] s1 H ⟨[.ref a], []⟩ [.ref a] [.ref a] _ _ rfl hr e0 hbind (.cons rfl .nil) (hsp H t.tab hS)) fun r s' h => ?_
    cases r with
    | error e => exact h.elim
    | ok fl =>
      cases fl with
      | ret u =>
        obtain ⟨v, H', os, bare, un, hok', r', q⟩ := h
        have q' : v = .bl true := q
        subst q'
        obtain rfl : u = Value.bool true := r'
        have key : ∀ b o, b ≠ T → s1.heap.get? b = some o → s'.heap.get? b = some o := fun b o nb e => by
          rcases t.rest b nb with z | ⟨z, o', xs, h'⟩
          · exact un.keep b o e z (fun m => nomatch m) (fun m => nomatch m)
          · obtain ⟨e1, _⟩ := hok b _ h'
            obtain ⟨e2, _⟩ := hok' b _ (un.frzs b o' _ h')
            rw [e] at e1
            cases e1
            exact e2
        obtain ⟨more, hm⟩ : ∃ more : Array Value, s'.heap.get? T = some { cls := .none, data := .fields more } := by
          obtain ⟨more, z⟩ := un.tbls T #[] t.tab
          exact ⟨_, hok' T _ z⟩
        refine ⟨rfl, ⟨fun b o e => ?_, fun b o e => ?_⟩, os, bare⟩
        · by_cases hb : b = T
          · rw [hb, hT] at e
            cases e
            rw [hb]
            exact .inr (.inl ⟨(C.tab hT).isCodeTable, rfl, #[], more, rfl, by rw [Array.empty_append]; exact hm⟩)
          · exact .inl (key b o hb e)
        · by_cases hb : b = T
          · rw [hb]
            exact ⟨_, hm⟩
          · exact ⟨o, key b o hb e⟩
      | next => exact False.elim h
      | brk => exact False.elim h
      | cont => exact False.elim h
  cases hk : K.lookup a with
  | some o =>
    have e := KX a o hk
    rw [ha] at e
    cases e
    have hTs : upd (fun _ => none) T (.tbl #[]) T = some (HO.tbl #[]) := upd_same
    refine core (upd (fun _ => none) T (.tbl #[])) ⟨hTs, fun b nb => .inl (upd_ne nb)⟩ (.inr ⟨_, vs.toArray, _, hk, rfl, rfl, rfl, by rw [List.size_toArray, lenV]; exact hl, by simpa using rv⟩) (fun b u z => ?_) fun z => absurd (upd_ne aT) z
    by_cases hb : b = T
    · subst hb
      rw [hTs] at z
      cases z
      exact hT
    · rw [upd_ne hb] at z
      cases z
  | none =>
    have hTs : upd (upd (fun _ => none) T (.tbl #[])) a (.frz { cls := .type "list", data := .seq vs.toArray } (.lst (ns.map V.int))) T = some (HO.tbl #[]) := by rw [upd_ne (Ne.symm aT)]; exact upd_same
    have hAs : upd (upd (fun _ => none) T (.tbl #[])) a (.frz { cls := .type "list", data := .seq vs.toArray } (.lst (ns.map V.int))) a = some (HO.frz { cls := .type "list", data := .seq vs.toArray } (.lst (ns.map V.int))) := upd_same
    refine core (upd (upd (fun _ => none) T (.tbl #[])) a (.frz { cls := .type "list", data := .seq vs.toArray } (.lst (ns.map V.int)))) ⟨hTs, fun b nb => ?_⟩ (.inl (.inr ⟨_, hAs⟩)) (fun b u z => ?_) fun _ => hk
    · by_cases hb : b = a
      · subst hb
        exact .inr ⟨rfl, _, _, hAs⟩
      · exact .inl (by rw [upd_ne hb, upd_ne nb])
    · by_cases hb : b = a
      · subst hb
        rw [hAs] at z
        cases z
        exact ⟨ha, by rw [List.length_map]; exact hl, vs, _, rv, ha⟩
      · by_cases hbT : b = T
        · subst hbT
          rw [hTs] at z
          cases z
          exact hT
        · rw [upd_ne hb, upd_ne hbT] at z
          cases z
end
end

section
set_option Elab.async false
set_option autoImplicit false
set_option linter.all false
set_option maxRecDepth 100000
set_option maxHeartbeats 4000000
open PySem PySem.Spec PyProof.Rows L2
theorem sc_law : FnScope N_law ["script"] (defScope s_law) := ⟨rfl, rfl, rfl, nd_law, rfl, by decide +kernel, by decide +kernel⟩
theorem ok_law {G : Gx} {mg : Str → Option Value} {base : Heap} (T : Txt G.K mg) (X : LbT G.K) (h__law_is_told : DfnG G.P G.w G.K mg base "_law_is_told" ["base", "parts", "records", "some", "day", "by_name"] 14 (sp__law_is_told G)) (h__law_deck : Dfn G.P G.w G.K mg base "_law_deck" ["script"] 1 (spDkA G)) (h__law_draw : Dfn G.P G.w G.K mg base "_law_draw" ["deck", "many"] 1 (sp__law_draw G)) (h__law_drawn_records : Dfn G.P G.w G.K mg base "_law_drawn_records" ["deck", "pool", "hands", "many", "days"] 4 (sp__law_drawn_records G)) (h__law_entry : Dfn G.P G.w G.K mg base "_law_entry" ["deck", "names", "bases", "constructors"] 4 (sp__law_entry G)) (h__law_library : Dfn G.P G.w G.K mg base "_law_library" ["parts", "entries"] 12 (sp__law_library G)) (h__law_like : Dfn G.P G.w G.K mg base "_law_like" ["deck", "entry", "parts"] 4 (sp__law_like G)) (h__law_parts : Dfn G.P G.w G.K mg base "_law_parts" ["deck", "many"] 5 (sp__law_parts G)) (h__law_pick : Dfn G.P G.w G.K mg base "_law_pick" ["deck", "some"] 2 (sp__law_pick G)) (h__law_some : Dfn G.P G.w G.K mg base "_law_some" ["deck", "some", "many"] 2 (sp__law_some G))
    (law : ∀ {vs : List V} {H : Hp} {Q : VK} {E : XK}, spLaw G vs H Q E → t_law G { nx := fun _ H' => Q .non H', rt := Q } (L2.start N_law vs) H) : DfnG G.P G.w G.K mg base "law" ["script"] 15 (spLaw G) := by
  obtain ⟨pP, gP, fdP, hpP, FP, hbP⟩ := ok_ent (P := G.P) (w := G.w) (mg := mg) (base := base) X
  obtain ⟨fd, F, hm⟩ := T.d_law
  refine ⟨_, fd, hm, F.kp, F.bindsN (fun _ _ _ _ _ _ us hl => match us, hl with | [_], _ => rfl), FnG.of F sc_law (fun vs H Q E h => ?_) (fun cdv A outer s H vs Q E hG hr h => ⟨t_law G, PSs.nox ?_, law h⟩)⟩
  · obtain ⟨p, xs, e, _⟩ := h
    rw [e]
    rfl
  exact (pss_cons (ps_set (i := 1) nd_law rfl (Or.inr rfl) (pe_callD h__law_deck (hr.mono (by decide)) (pa_cons (pv 0) pa_nil)))
      (pss_cons (ps_for PassesOwn.never rfl (pi_range1 (by rfl) T.free_range (pa_cons pe_int pa_nil)) (pg_name (i := 2) nd_law rfl (Or.inl rfl)) (pss_cons (ps_set (i := 3) nd_law rfl (Or.inr rfl) (pe_callD h__law_parts (hr.mono (by decide)) (pa_cons (pv 1) (pa_cons (pe_op op_addU pe_int (pe_callD h__law_draw (hr.mono (by decide)) (pa_cons (pv 1) (pa_cons pe_int pa_nil)))) pa_nil))))
      (pss_cons (ps_asg (pe_tup (pa_cons (pe_callD h__law_library (hr.mono (by decide)) (pa_cons (pv 3) (pa_cons (pe_dget (hu_of hr) (pv 3) pe_str (fun _ _ => rfl)) pa_nil))) (pa_cons (pe_dget (hu_of hr) (pv 3) pe_str (fun _ _ => rfl)) pa_nil))) (pg_tup rfl (pgs_cons (pg_name (i := 4) nd_law rfl (Or.inl rfl)) (pgs_cons (pg_name (i := 5) nd_law rfl (Or.inr rfl)) pgs_nil))))
      (pss_cons (ps_set (i := 6) nd_law rfl (Or.inr rfl) (pe_op op_addU (pe_callTy call_list_of (by rfl) T.free_list (by decide +kernel) (pa_cons (pe_dget (hu_of hr) (pv 3) pe_str (fun _ _ => rfl)) pa_nil)) (pe_lc (own := [("go", 13)]) (g := (gName 13)) (tt := tYes) rfl nd_law (pi_range1 (by rfl) T.free_range (pa_cons (pe_op op_addU pe_int (pe_callD h__law_draw (hr.mono (by decide)) (pa_cons (pv 1) (pa_cons pe_int pa_nil)))) pa_nil)) (blkOk_by (own := [("go", 13)]) (N := N_law) (sc := defScope s_law) (by decide +kernel)) (fun _ _ _ _ _ => (pg_name (i := 13) nd_law rfl (Or.inl rfl))) (fun _ _ _ _ _ => pts_nil) (fun _ _ _ _ _ => (pe_callD h__law_entry (hr.mono (by decide)) (pa_cons (pv 1) (pa_cons (pe_slice sl_U (pv 5) (po_some pe_int) (po_some pe_int)) (pa_cons (pe_dget (hu_of hr) (pv 3) pe_str (fun _ _ => rfl)) (pa_cons (pe_dget (hu_of hr) (pv 3) pe_str (fun _ _ => rfl)) pa_nil)))))))))
      (pss_cons (ps_set (i := 6) nd_law rfl (Or.inr rfl) (pe_op op_addU (pv 6) (pe_lc (own := [("go", 13)]) (g := (gName 13)) (tt := tYes) rfl nd_law (pi_range1 (by rfl) T.free_range (pa_cons pe_int pa_nil)) (blkOk_by (own := [("go", 13)]) (N := N_law) (sc := defScope s_law) (by decide +kernel)) (fun _ _ _ _ _ => (pg_name (i := 13) nd_law rfl (Or.inl rfl))) (fun _ _ _ _ _ => pts_nil) (fun _ _ _ _ _ => (pe_callD h__law_like (hr.mono (by decide)) (pa_cons (pv 1) (pa_cons (pe_callD h__law_pick (hr.mono (by decide)) (pa_cons (pv 1) (pa_cons (pv 6) pa_nil))) (pa_cons (pv 3) pa_nil))))))))
      (pss_cons (ps_set (i := 7) nd_law rfl (Or.inl rfl) (pe_callD h__law_pick (hr.mono (by decide)) (pa_cons (pv 1) (pa_cons (pe_lst (pa_cons (pe_lst (pa_cons pe_int (pa_cons pe_int (pa_cons pe_int (pa_cons pe_int (pa_cons pe_int (pa_cons pe_int pa_nil))))))) (pa_cons (pe_lst (pa_cons pe_int pa_nil)) (pa_cons (pe_lst (pa_cons pe_int (pa_cons pe_int (pa_cons pe_int (pa_cons pe_int (pa_cons pe_int pa_nil)))))) (pa_cons (pe_lst (pa_cons pe_int (pa_cons pe_int pa_nil))) pa_nil))))) pa_nil))))
      (pss_cons (ps_set (i := 8) nd_law rfl (Or.inl rfl) (pe_callD h__law_drawn_records (hr.mono (by decide)) (pa_cons (pv 1) (pa_cons (pv 6) (pa_cons (pe_op op_addU pe_int (pe_callD h__law_draw (hr.mono (by decide)) (pa_cons (pv 1) (pa_cons pe_int pa_nil)))) (pa_cons (pe_callD h__law_pick (hr.mono (by decide)) (pa_cons (pv 1) (pa_cons (pe_lst (pa_cons pe_int (pa_cons pe_int (pa_cons pe_int (pa_cons pe_int (pa_cons pe_int pa_nil)))))) pa_nil))) (pa_cons (pv 7) pa_nil)))))))
      (pss_cons (ps_set (i := 9) nd_law rfl (Or.inl rfl) (pe_callB (cr_repr hG hr.units) (by rfl) T.free_repr (by decide +kernel) (pa_cons (pe_tup (pa_cons (pe_prop (pv 4) X.k.cls hpP FP (hr.mono (by decide)) hbP .nil pass0 rfl) (pa_cons (pv 8) pa_nil))) pa_nil)))
      (pss_cons (ps_for PassesOwn.never rfl (pi_seq (pe_sortSet hr.hd T.free_sorted T.free_set (pe_op op_addU (pv 7) (pe_lst (pa_cons pe_int (pa_cons (pe_callB (call_min2 rfl) (by rfl) T.free_min (by decide +kernel) (pa_cons pe_int (pa_cons (pe_op op_addU (pe_ix ix_seq (pv 7) (pe_un un_neg pe_int) (fun _ _ => rfl)) pe_int) pa_nil))) (pa_cons (pe_callD h__law_draw (hr.mono (by decide)) (pa_cons (pv 1) (pa_cons pe_int pa_nil))) pa_nil))))))) (pg_name (i := 10) nd_law rfl (Or.inr rfl)) (pss_cons (ps_set (i := 11) nd_law rfl (Or.inl rfl) (pe_callTy call_tuple_of (by rfl) T.free_tuple (by decide +kernel) (pa_cons (pe_lc (own := [("record", 14)]) (g := (gName 14)) (tt := (tTest (tOp rLeU (tOp (rIx G.K) (tVar 14) (tC (.int 2))) (tVar 10)))) rfl nd_law (pi_seq (pv 8)) (blkOk_by (own := [("record", 14)]) (N := N_law) (sc := defScope s_law) (by decide +kernel)) (fun _ _ _ _ _ => (pg_name (i := 14) nd_law rfl (Or.inl rfl))) (fun _ _ _ _ _ => (pts_one (pt_cmpR op_leU (pe_ix ix_seq (pv 14) pe_int (fun _ _ => rfl)) (pv 10) (nomark _)))) (fun _ _ _ _ _ => (pv 14))) pa_nil)))
      (pss_cons (ps_set (i := 12) nd_law rfl (Or.inl rfl) (pe_callD h__law_pick (hr.mono (by decide)) (pa_cons (pv 1) (pa_cons (pe_lst (pa_cons (pv 8) (pa_cons (pe_callTy call_tuple_of (by rfl) T.free_tuple (by decide +kernel) (pa_cons (pe_callD h__law_some (hr.mono (by decide)) (pa_cons (pv 1) (pa_cons (pv 8) (pa_cons (pe_callB call_len (by rfl) T.free_len (by decide +kernel) (pa_cons (pv 8) pa_nil)) pa_nil)))) pa_nil)) (pa_cons (pv 11) pa_nil)))) pa_nil))))
      (pss_one (ps_if (pt_not (pt_val (pe_callG h__law_is_told hG (hr.mono (by decide)) (pa_cons (pv 4) (pa_cons (pv 3) (pa_cons (pv 8) (pa_cons (pv 12) (pa_cons (pv 10) (pa_cons (pe_cmpR (op_eqD hr.units) (pe_callD h__law_draw (hr.mono (by decide)) (pa_cons (pv 1) (pa_cons pe_int pa_nil))) pe_int (nomark _)) pa_nil))))))))) (pss_one (ps_ret pe_bl)) pss_nil)))))
      (pss_one (ps_if (pt_cmpR op_ne (pe_callB (cr_repr hG hr.units) (by rfl) T.free_repr (by decide +kernel) (pa_cons (pe_tup (pa_cons (pe_prop (pv 4) X.k.cls hpP FP (hr.mono (by decide)) hbP .nil pass0 rfl) (pa_cons (pv 8) pa_nil))) pa_nil)) (pv 9) (nomark _)) (pss_one (ps_ret pe_bl)) pss_nil)))))))))))
      (pss_one (ps_ret pe_bl))))
end

section
set_option Elab.async false
set_option autoImplicit false
set_option linter.all false
set_option maxRecDepth 100000
set_option maxHeartbeats 4000000
open PySem PySem.Spec PyProof.Rows L2 LamX
theorem law_okG {P : Program} {w : World} {K : PySem.W.Frag} {mg : Str → Option Value} {base : Heap} {Pt : Addr} (T : Txt K mg) (X : LbT K) (Y : LbQ K) (hg : Cst mg "Library" (.ref (He.ga K "Library"))) (hTB : TabB base mg (He.codeOf K ("_law_live", none)) Pt) :
    DfnG P w K mg base "law" ["script"] 15 (spLaw (gxT P w K Pt "_law_live.<locals>.<lambda>")) := by
  have hdk : ∀ H a, (gxT P w K Pt "_law_live.<locals>.<lambda>").dk H a ↔ isDk P w H a := fun _ _ => Iff.rfl
  have htb : ∀ H a o o', H a = some o → MayWr P w a o → (gxT P w K Pt "_law_live.<locals>.<lambda>").tb H → (gxT P w K Pt "_law_live.<locals>.<lambda>").tb (upd H a o') := fun _ _ _ _ h m t => tabS_upd h m t
  have hG : ∀ H, (gxT P w K Pt "_law_live.<locals>.<lambda>").tb H ↔ TabS H Pt "_law_live.<locals>.<lambda>" := fun _ => Iff.rfl
  replace hg : Cst mg "Library" (.ref (lbC (gxT P w K Pt "_law_live.<locals>.<lambda>"))) := hg
  have h__law_do_meet := ok__law_do_meet (G := gxT P w K Pt "_law_live.<locals>.<lambda>") (mg := mg) (base := base) T (fun _ _ ds Q hl h => law_lmeet ds Q hl h)
  have h__law_do_clash := ok__law_do_clash (G := gxT P w K Pt "_law_live.<locals>.<lambda>") (mg := mg) (base := base) T h__law_do_meet (fun _ _ ds Q hl h => law_lclash ds Q hl h)
  have h__law_live := ok__law_live (G := gxT P w K Pt "_law_live.<locals>.<lambda>") (mg := mg) (base := base) T hG hTB (fun _ _ ds Q hl h => law_llive ds Q hl h)
  have h__law_entries_on := ok__law_entries_on (G := gxT P w K Pt "_law_live.<locals>.<lambda>") (mg := mg) (base := base) T h__law_do_clash h__law_live (fun _ _ ds Q hl h => law_entries_on ds Q hl h)
  have h_is_name := ok_is_name (G := gxT P w K Pt "_law_live.<locals>.<lambda>") (mg := mg) (base := base) T (fun _ _ ds Q hl h => law_is_name ds Q hl h)
  have h_are_names := ok_are_names (G := gxT P w K Pt "_law_live.<locals>.<lambda>") (mg := mg) (base := base) T h_is_name (fun _ _ ds Q hl h => law_are_names ds Q hl h)
  have h_check_names := ok_check_names (G := gxT P w K Pt "_law_live.<locals>.<lambda>") (mg := mg) (base := base) T h_are_names (fun _ _ ds Q hl h => law_check_names ds Q hl h)
  have h_has_parts_of := ok_has_parts_of (G := gxT P w K Pt "_law_live.<locals>.<lambda>") (mg := mg) (base := base) T (fun _ _ ds Q hl h => law_has_parts_of ds Q hl h)
  have h_fits_number := ok_fits_number (G := gxT P w K Pt "_law_live.<locals>.<lambda>") (mg := mg) (base := base) T (fun _ _ ds Q hl h => law_fits_number ds Q hl h)
  have h_is_name_token := ok_is_name_token (G := gxT P w K Pt "_law_live.<locals>.<lambda>") (mg := mg) (base := base) T h_is_name (fun _ _ ds Q hl h => law_is_name_token T.t_WORDS ds Q hl h)
  have h_is_entry_name := ok_is_entry_name (G := gxT P w K Pt "_law_live.<locals>.<lambda>") (mg := mg) (base := base) T h_is_name_token (fun _ _ ds Q hl h => law_is_entry_name T.t_OPERATORS ds Q hl h)
  have h_has_hole := ok_has_hole (G := gxT P w K Pt "_law_live.<locals>.<lambda>") (mg := mg) (base := base) T (fun _ _ ds Q hl h => law_has_hole ds Q hl h)
  have h_is_pattern := ok_is_pattern (G := gxT P w K Pt "_law_live.<locals>.<lambda>") (mg := mg) (base := base) T h_has_hole h_is_name (fun _ _ ds Q hl h => law_is_pattern ds Q hl h)
  have h_is_entry := ok_is_entry (G := gxT P w K Pt "_law_live.<locals>.<lambda>") (mg := mg) (base := base) T h_fits_number h_is_entry_name h_is_pattern (fun _ _ ds Q hl h => law_is_entry T.t_SORTS ds Q hl h)
  have h_is_entry_of := ok_is_entry_of (G := gxT P w K Pt "_law_live.<locals>.<lambda>") (mg := mg) (base := base) T h_has_parts_of h_is_entry (fun _ _ ds Q hl h => law_is_entry_of ds Q hl h)
  have h_check_role := ok_check_role (G := gxT P w K Pt "_law_live.<locals>.<lambda>") (mg := mg) (base := base) T (fun _ _ ds Q hl h => law_check_role ds Q hl h)
  have h_put := ok_put (G := gxT P w K Pt "_law_live.<locals>.<lambda>") (mg := mg) (base := base) T (fun _ _ ds Q hl h => law_put ds Q hl h)
  have h_differing := ok_differing (G := gxT P w K Pt "_law_live.<locals>.<lambda>") (mg := mg) (base := base) T (fun _ _ ds Q hl h => law_differing ds Q hl h)
  have h_is_unknown := ok_is_unknown (G := gxT P w K Pt "_law_live.<locals>.<lambda>") (mg := mg) (base := base) T (fun _ _ ds Q hl h => law_is_unknown ds Q hl h)
  have h_resolved := ok_resolved (G := gxT P w K Pt "_law_live.<locals>.<lambda>") (mg := mg) (base := base) T h_is_unknown (fun _ _ ds Q hl h => law_resolved ds Q hl h)
  have h_unified := ok_unified (G := gxT P w K Pt "_law_live.<locals>.<lambda>") (mg := mg) (base := base) T h_differing h_is_unknown h_resolved (fun _ _ ds Q hl h => law_unified ds Q hl h)
  have h_unified_all := ok_unified_all (G := gxT P w K Pt "_law_live.<locals>.<lambda>") (mg := mg) (base := base) T h_unified (fun _ _ ds Q hl h => law_unified_all ds Q hl h)
  have h_do_clash := ok_do_clash (G := gxT P w K Pt "_law_live.<locals>.<lambda>") (mg := mg) (base := base) T h_put h_unified_all (fun _ _ ds Q hl h => law_do_clash ds Q hl h)
  have h_clash_with := ok_clash_with (G := gxT P w K Pt "_law_live.<locals>.<lambda>") (mg := mg) (base := base) T h_do_clash (fun _ _ ds Q hl h => law_clash_with ds Q hl h)
  have h_check_clashes := ok_check_clashes (G := gxT P w K Pt "_law_live.<locals>.<lambda>") (mg := mg) (base := base) T h_clash_with (fun _ _ ds Q hl h => law_check_clashes ds Q hl h)
  have h_by_names := ok_by_names (G := gxT P w K Pt "_law_live.<locals>.<lambda>") (mg := mg) (base := base) T (fun _ _ ds Q hl h => law_by_names ds Q hl h)
  have hOf := ok_of (G := gxT P w K Pt "_law_live.<locals>.<lambda>") (mg := mg) (base := base) T X h_check_names h_is_entry_of h_check_role h_check_clashes h_by_names
  have h__law_library := ok__law_library (G := gxT P w K Pt "_law_live.<locals>.<lambda>") (mg := mg) (base := base) T X hg hOf (fun _ _ ds Q hl h => law_library ds Q hl h)
  have h_entries_behind := ok_entries_behind (G := gxT P w K Pt "_law_live.<locals>.<lambda>") (mg := mg) (base := base) T h_clash_with (fun _ _ ds Q hl h => law_entries_behind ds Q hl h)
  have h_rank_of := ok_rank_of (G := gxT P w K Pt "_law_live.<locals>.<lambda>") (mg := mg) (base := base) T (fun _ _ ds Q hl h => law_rank_of ds Q hl h)
  have h_by_rank := ok_by_rank (G := gxT P w K Pt "_law_live.<locals>.<lambda>") (mg := mg) (base := base) T h_rank_of (fun _ _ ds Q hl h => law_by_rank ds Q hl h)
  have h_name_of := ok_name_of (G := gxT P w K Pt "_law_live.<locals>.<lambda>") (mg := mg) (base := base) T (fun _ _ ds Q hl h => law_name_of ds Q hl h)
  have h_live_in := ok_live_in (G := gxT P w K Pt "_law_live.<locals>.<lambda>") (mg := mg) (base := base) T h_by_rank h_name_of (fun _ _ ds Q hl h => law_live_in ds Q hl h)
  have h_roles_of := ok_roles_of (G := gxT P w K Pt "_law_live.<locals>.<lambda>") (mg := mg) (base := base) T (fun _ _ ds Q hl h => law_roles_of X.k ds Q hl h)
  have h_library_of_day := ok_library_of_day (G := gxT P w K Pt "_law_live.<locals>.<lambda>") (mg := mg) (base := base) T X hg hOf h_entries_behind h_live_in h_roles_of (fun _ _ ds Q hl h => law_library_of_day X.k ds Q hl h)
  have h_is_from_nought := ok_is_from_nought (G := gxT P w K Pt "_law_live.<locals>.<lambda>") (mg := mg) (base := base) T (fun _ _ ds Q hl h => law_is_from_nought ds Q hl h)
  have h_need_day := ok_need_day (G := gxT P w K Pt "_law_live.<locals>.<lambda>") (mg := mg) (base := base) T h_is_from_nought (fun _ _ ds Q hl h => law_need_day ds Q hl h)
  have h_is_entry_for := ok_is_entry_for (G := gxT P w K Pt "_law_live.<locals>.<lambda>") (mg := mg) (base := base) T h_is_entry_of (fun _ _ ds Q hl h => law_is_entry_for X.k ds Q hl h)
  have h_is_deed := ok_is_deed (G := gxT P w K Pt "_law_live.<locals>.<lambda>") (mg := mg) (base := base) T h_is_entry_for h_is_from_nought (fun _ _ ds Q hl h => law_is_deed ds Q hl h)
  have h_is_record := ok_is_record (G := gxT P w K Pt "_law_live.<locals>.<lambda>") (mg := mg) (base := base) T h_is_deed h_is_from_nought (fun _ _ ds Q hl h => law_is_record ds Q hl h)
  have h_are_records := ok_are_records (G := gxT P w K Pt "_law_live.<locals>.<lambda>") (mg := mg) (base := base) T h_is_record h_name_of (fun _ _ ds Q hl h => law_are_records ds Q hl h)
  have h_need_records := ok_need_records (G := gxT P w K Pt "_law_live.<locals>.<lambda>") (mg := mg) (base := base) T h_are_records (fun _ _ ds Q hl h => law_need_records ds Q hl h)
  have h_library_on := ok_library_on (G := gxT P w K Pt "_law_live.<locals>.<lambda>") (mg := mg) (base := base) T h_library_of_day h_need_day h_need_records (fun _ _ ds Q hl h => law_library_on ds Q hl h)
  have h_live := ok_live (G := gxT P w K Pt "_law_live.<locals>.<lambda>") (mg := mg) (base := base) T h_live_in h_need_day h_need_records (fun _ _ ds Q hl h => law_live ds Q hl h)
  have hR_live := okR_live (G := gxT P w K Pt "_law_live.<locals>.<lambda>") (mg := mg) (base := base) T h_live_in h_need_day h_need_records (fun _ _ ds Q hl h => law_live ds Q hl h)
  have hR_library_on := okR_library_on (G := gxT P w K Pt "_law_live.<locals>.<lambda>") (mg := mg) (base := base) T h_library_of_day h_need_day h_need_records (fun _ _ ds Q hl h => law_library_on ds Q hl h)
  have hLeq := ok_leq (G := gxT P w K Pt "_law_live.<locals>.<lambda>") (mg := mg) (base := base) T Y hg h_roles_of (fun _ _ ds Q hl h => law_leq Y.is Y.kit X.k ds Q hl h)
  have h__law_is_told := ok__law_is_told (G := gxT P w K Pt "_law_live.<locals>.<lambda>") (mg := mg) (base := base) T X Y hLeq h__law_entries_on h__law_library h__law_live h_library_on h_live hR_live hR_library_on (fun _ _ ds Q hl h => law_is_told Y.is X.k ds Q hl h)
  have h__law_deck := ok__law_deck (G := gxT P w K Pt "_law_live.<locals>.<lambda>") (mg := mg) (base := base) T hdk htb
  have h__law_draw := ok__law_draw (G := gxT P w K Pt "_law_live.<locals>.<lambda>") (mg := mg) (base := base) T hdk htb
  have h__law_pick := ok__law_pick (G := gxT P w K Pt "_law_live.<locals>.<lambda>") (mg := mg) (base := base) T h__law_draw (fun _ _ ds Q hl h => law_pick ds Q hl h)
  have h__law_drawn_deed := ok__law_drawn_deed (G := gxT P w K Pt "_law_live.<locals>.<lambda>") (mg := mg) (base := base) T h__law_draw h__law_pick (fun _ _ ds Q hl h => law_drawn_deed ds Q hl h)
  have h__law_some := ok__law_some (G := gxT P w K Pt "_law_live.<locals>.<lambda>") (mg := mg) (base := base) T h__law_draw (fun _ _ ds Q hl h => law_some ds Q hl h)
  have h__law_drawn_records := ok__law_drawn_records (G := gxT P w K Pt "_law_live.<locals>.<lambda>") (mg := mg) (base := base) T h__law_draw h__law_drawn_deed h__law_pick h__law_some (fun _ _ ds Q hl h => law_drawn_records ds Q hl h)
  have h__law_pattern := ok__law_pattern (G := gxT P w K Pt "_law_live.<locals>.<lambda>") (mg := mg) (base := base) T h__law_draw h__law_pick (fun _ _ ds Q hl h => law_pattern ds Q hl h)
  have h__law_entry := ok__law_entry (G := gxT P w K Pt "_law_live.<locals>.<lambda>") (mg := mg) (base := base) T h__law_pattern h__law_pick (fun _ _ ds Q hl h => law_entry ds Q hl h)
  have h__law_like := ok__law_like (G := gxT P w K Pt "_law_live.<locals>.<lambda>") (mg := mg) (base := base) T h__law_draw h__law_pattern h__law_pick (fun _ _ ds Q hl h => law_like ds Q hl h)
  have h__law_names := ok__law_names (G := gxT P w K Pt "_law_live.<locals>.<lambda>") (mg := mg) (base := base) T h__law_draw h__law_pick (fun _ _ ds Q hl h => law_names ds Q hl h)
  have h__law_parts := ok__law_parts (G := gxT P w K Pt "_law_live.<locals>.<lambda>") (mg := mg) (base := base) T h__law_do_clash h__law_draw h__law_entry h__law_names h__law_pick (fun _ _ ds Q hl h => law_parts ds Q hl h)
  have h_law := ok_law (G := gxT P w K Pt "_law_live.<locals>.<lambda>") (mg := mg) (base := base) T X h__law_is_told h__law_deck h__law_draw h__law_drawn_records h__law_entry h__law_library h__law_like h__law_parts h__law_pick h__law_some (fun h => law_law X.k h)
  exact h_law
end

section
set_option Elab.async false
set_option autoImplicit false
set_option linter.all false
set_option maxRecDepth 100000
set_option maxHeartbeats 4000000
open PySem PySem.Spec PyProof.Rows L2 LamX
theorem in_faX {f : He.Fa} (h : f ∈ faX) : f ∈ fa ++ faX := List.mem_append_right _ h
theorem in_fnX {d : He.DefD} (h : d ∈ fnX) : d ∈ fn ++ fnX := List.mem_append_right _ h
section
variable {K : PySem.W.Frag} {h : Heap} {mg : Str → Option Value}
theorem lbT_of (c : SaysZ (fa ++ faX) (fn ++ fnX) xsX tfX exX h K) : LbT K := by
  obtain ⟨_, m⟩ := He.ba (show (more K && (cmB K (aLib K) "of" && (prB K (aLib K) "entries" && (isB K (aLib K) && (He.eqO (PySem.W.findIn K (.ref (aLib K)) "__eq__") (some (some (.ref (He.ma K (aLib K) "__eq__")))) && PySem.W.isFn K (.ref (He.ma K (aLib K) "__eq__"))))))) = true from c.more)
  obtain ⟨m1, m⟩ := He.ba m
  obtain ⟨m2, m⟩ := He.ba m
  have hcls : Cls K (He.ga K "Library") := He.cls_ok (c.says.facts (f := .cls "Library") (in_faX (by simp [faX])))
  have hno : ∀ f ∈ ((["bases", "constructors", "number", "quote", "truth", "sorted_entries", "by_name"] : List Str)), NoAttr K (He.ga K "Library") f := fun f hf => He.noat_ok (c.says.facts (f := .noat "Library" f) (in_faX (by
    have h7 : f = "bases" ∨ f = "constructors" ∨ f = "number" ∨ f = "quote" ∨ f = "truth" ∨ f = "sorted_entries" ∨ f = "by_name" := by simpa using hf
    rcases h7 with rfl | rfl | rfl | rfl | rfl | rfl | rfl <;> simp [faX])))
  obtain ⟨c1, c2⟩ := cmB_ok m1
  obtain ⟨p1, p2⟩ := c.paths (aOf, D_of) (by simp [xsX])
  obtain ⟨fdO, FO⟩ := funD_at p1 p2
  obtain ⟨q1, q2⟩ := c.paths (aEn, D_entries) (by simp [xsX])
  obtain ⟨fdE, FE⟩ := funD_at q1 q2
  exact ⟨⟨hcls, hno⟩, He.mkr_ok (c.says.facts (f := .mkr "Library") (in_faX (by simp [faX]))), c.says.defs (d := D_init) (in_fnX (by simp [fnX])), ⟨_, _, _, fdO, c1, c2, FO⟩, ⟨_, _, fdE, prB_ok m2, FE⟩⟩
theorem lbQ_of (c : SaysZ (fa ++ faX) (fn ++ fnX) xsX tfX exX h K) : LbQ K := by
  obtain ⟨_, m⟩ := He.ba (show (more K && (cmB K (aLib K) "of" && (prB K (aLib K) "entries" && (isB K (aLib K) && (He.eqO (PySem.W.findIn K (.ref (aLib K)) "__eq__") (some (some (.ref (He.ma K (aLib K) "__eq__")))) && PySem.W.isFn K (.ref (He.ma K (aLib K) "__eq__"))))))) = true from c.more)
  obtain ⟨m1, m⟩ := He.ba m
  obtain ⟨m2, m⟩ := He.ba m
  obtain ⟨m3, m⟩ := He.ba m
  obtain ⟨m4, m5⟩ := He.ba m
  have hcls : Cls K (He.ga K "Library") := He.cls_ok (c.says.facts (f := .cls "Library") (in_faX (by simp [faX])))
  obtain ⟨i1, i2⟩ := isB_ok hcls m3
  exact ⟨c.says.defs (d := D_eq) (in_fnX (by simp [fnX])), He.eqO_ok m4, m5, i1, i2⟩
theorem txt_of (X : K.In h) (G : h.Ns mainGlobals mg) (c : SaysZ (fa ++ faX) (fn ++ fnX) xsX tfX exX h K) : Txt K mg := by
  obtain ⟨m, _⟩ := He.ba (show (more K && (cmB K (aLib K) "of" && (prB K (aLib K) "entries" && (isB K (aLib K) && (He.eqO (PySem.W.findIn K (.ref (aLib K)) "__eq__") (some (some (.ref (He.ma K (aLib K) "__eq__")))) && PySem.W.isFn K (.ref (He.ma K (aLib K) "__eq__"))))))) = true from c.more)
  exact ⟨⟨h, X, G⟩, says_front c.says, m⟩
theorem lib_of (X : K.In h) (G : h.Ns mainGlobals mg) (c : SaysZ (fa ++ faX) (fn ++ fnX) xsX tfX exX h K) : Cst mg "Library" (.ref (He.ga K "Library")) :=
  ⟨_, He.glo_ok X G (c.says.facts (f := .glo "Library") (in_faX (by simp [faX]))), rfl⟩
end
end

end Sw
section
set_option Elab.async false
set_option autoImplicit false
set_option linter.all false
set_option maxRecDepth 100000
set_option maxHeartbeats 4000000
open PySem PySem.W PySem.Calls PyProof.Rows
theorem PySem.Challenge.cw_sparewright_k95_live_records_and_librari_holds : PySem.Challenge.rw_sparewright_k95_live_records_and_librari.Holds := by
  w_on; o_law
  refine HandSHeadRun.head_any (r := Sw.R) (q := view Sw.R.prog [107]) (H := Sw.hk) (ob := Sw.ob) (M := 6000) (loose := Sw.names) (d := HandSHeadRun.topDef Sw.R.prog 107) (kwd := []) Sw.ob_eq
    (by kernel_rfl) (fun s => by kernel_rfl) Sw.run (by kernel_rfl) (by kernel_rfl) (by kernel_rfl) (by rfl) (by first | assumption | decide +kernel) (by decide +kernel) ⟨rfl, rfl, rfl, rfl, rfl, by decide +kernel⟩ ?hw ?hc
  case hw => w_witness2
  case hc =>
    refine Att.attach_callB (l := PySem.Challenge.rw_sparewright_k95_live_records_and_librari) (n := 63) rfl (by kernel_rfl) fun w s₀ s₁ mg mb fa o pm cd doc a vs ns G Y ho hd hcd hmg hobj hints hlen hbits hg => ?_
    obtain ⟨K, KX, c⟩ := Y
    have T := Sw.txt_of KX G.T.g c
    have mem : (("_law_live", none) : He.Defn) ∈ Sw.tfX := by simp [Sw.tfX]
    refine Sw.call_endG (K := K) (k := 15) (x := "script") (sp := Sw.spLaw (Sw.gxT Sw.R.prog w K (He.cT K ("_law_live", none)).2 "_law_live.<locals>.<lambda>")) KX G.T.g G.T.b G.T.builtins G.T.nolimit hg (c.empty _ mem) (c.out _ mem) (PySem.W.codeHd_of_K KX (c.hd _ mem)) G.T.bmain hobj hints (Nat.le_trans hlen (by decide)) ⟨rfl, by decide, by decide⟩ (fun base Kb Nb TB => ?_) fun H hT hS => ⟨a, ns, rfl, hS, ⟨#[], hT, ?_, ?_⟩, fun _ => rfl⟩
    · obtain ⟨f, fd, hm, kp, bn, F⟩ := Sw.law_okG (P := Sw.R.prog) (w := w) (K := K) (mg := mg) (base := base) (Pt := (He.cT K ("_law_live", none)).2) T (Sw.lbT_of c) (Sw.lbQ_of c) (Sw.lib_of KX G.T.g c) TB
      have hmg' : mg ("law" : PySem.Str) = some (.ref fa) := by
        have e : (HandSHeadRun.topDef Sw.R.prog 107).name = ("law" : PySem.Str) := by kernel_rfl
        rw [← e]
        exact hmg
      rw [hm] at hmg'
      cases hmg'
      exact ⟨fd, bn s₁ [.ref a] KX rfl, F⟩
    · exact (by simp [TriplesOk])
    · exact fun pos cv hc => (by simp [codeAmong] at hc)
end
