import PyProof.Rows.All
import PySem.Str
import HandS.ForMost
import HandS.Lambda
import HandS.Nested
import HandS.IsInst
import HandS.TupSets
import HandS.TupAny
import HandS.TupLe
import HandS.Star
import HandS.Style
import HandS.Zip
import HandS.Flow
import PyProof.ReprReads
import HandS.Defaults
import Wide.All
import OpenK.AllK
import Wide.FinOn
import HandS.Head2
import HandS.HeadWalk
import HandS.HeadHook4
import PySem.Challenge.RW_packsworn_k03_whole_ranges_put_together
import HandS.SortKw
import HandS.Codes
import HandS.TupMul
import HandS.Evl
import KE.KDictZip
import HandS.ListItems
import KE.GoesMore
import KE.GoesZip
import HandS.EndTab
import HandS.NestedK
set_option Elab.async false
set_option linter.all false
set_option maxRecDepth 100000
set_option maxHeartbeats 1000000
/-! Ranges as rows of stretches over the naturals: the mathematics alone. -/
namespace K3
/-- a stretch: from .1 on, below .2 (none: no end) -/
abbrev Sg := Nat × Option Nat
abbrev Rg := List Sg
def below (x : Nat) : Option Nat → Bool
  | none => true
  | some h => decide (x < h)
/-- x is in one of the stretches -/
def inR (x : Nat) : Rg → Bool
  | [] => false
  | s :: r => (decide (s.1 ≤ x) && below x s.2) || inR x r
/-- a RANGE whose first low is at least b -/
def Can : Nat → Rg → Prop
  | _, [] => True
  | b, (l, none) :: r => b ≤ l ∧ r = []
  | b, (l, some h) :: r => b ≤ l ∧ l < h ∧ Can (h + 1) r
theorem Can.mono : ∀ {b c : Nat} {R : Rg}, Can c R → b ≤ c → Can b R
  | _, _, [], _, _ => trivial
  | _, _, (l, none) :: r, h, e => ⟨Nat.le_trans e h.1, h.2⟩
  | _, _, (l, some k) :: r, h, e => ⟨Nat.le_trans e h.1, h.2⟩
theorem Can.less : ∀ {b : Nat} {R : Rg}, Can b R → ∀ x, x < b → inR x R = false
  | _, [], _, _, _ => rfl
  | b, (l, none) :: r, h, x, hx => by
    obtain ⟨h1, h2⟩ := h
    subst h2
    have e : decide (l ≤ x) = false := decide_eq_false (by omega)
    simp [inR, e]
  | b, (l, some k) :: r, h, x, hx => by
    obtain ⟨h1, h2, h3⟩ := h
    have e : decide (l ≤ x) = false := decide_eq_false (by omega)
    have e2 := Can.less h3 x (by omega)
    simp [inR, e, e2]
theorem inR_cons_some {x l k : Nat} {r : Rg} (h : Can (k + 1) r) (hl : l < k) : inR x ((l, some k) :: r) = if x < l then false else if x < k then true else if x = k then false else inR x r := by
  show ((decide (l ≤ x) && decide (x < k)) || inR x r) = _
  by_cases h1 : x < l
  · have e := Can.less h x (by omega)
    rw [if_pos h1, e, decide_eq_false (show ¬ l ≤ x by omega)]
    rfl
  · rw [if_neg h1]
    by_cases h2 : x < k
    · rw [if_pos h2, decide_eq_true (show l ≤ x by omega)]
      simp [h2]
    · rw [if_neg h2]
      by_cases h3 : x = k
      · have e := Can.less h x (by omega)
        rw [if_pos h3, e]
        simp [h2]
      · rw [if_neg h3]
        simp [h2]
theorem inR_none {x l : Nat} : inR x [(l, none)] = decide (l ≤ x) := by
  unfold inR below inR
  simp
/-- a RANGE is told by what is in it -/
theorem can_uniq : ∀ {b : Nat} {R S : Rg}, Can b R → Can b S → (∀ x, inR x R = inR x S) → R = S := by
  intro b R
  induction R generalizing b with
  | nil =>
    intro S _ hS h
    cases S with
    | nil => rfl
    | cons s r =>
      obtain ⟨l, o⟩ := s
      have e := h l
      exfalso
      cases o with
      | none =>
        obtain ⟨_, h2⟩ := hS
        subst h2
        rw [inR_none] at e
        simp [inR] at e
      | some k =>
        obtain ⟨_, h2, h3⟩ := hS
        rw [inR_cons_some h3 h2] at e
        simp [inR, h2] at e
  | cons p R ih =>
    intro S hR hS h
    obtain ⟨l, o⟩ := p
    cases S with
    | nil =>
      have e := h l
      exfalso
      cases o with
      | none =>
        obtain ⟨_, h2⟩ := hR
        subst h2
        rw [inR_none] at e
        simp [inR] at e
      | some k =>
        obtain ⟨_, h2, h3⟩ := hR
        rw [inR_cons_some h3 h2] at e
        simp [inR, h2] at e
    | cons q S =>
      obtain ⟨l', o'⟩ := q
      cases o with
      | none =>
        obtain ⟨a1, a2⟩ := hR
        subst a2
        cases o' with
        | none =>
          obtain ⟨b1, b2⟩ := hS
          subst b2
          have e1 := h l
          have e2 := h l'
          rw [inR_none, inR_none] at e1 e2
          have : l = l' := by
            simp at e1 e2
            omega
          rw [this]
        | some k' =>
          exfalso
          obtain ⟨b1, b2, b3⟩ := hS
          have e1 := h l
          have e2 := h l'
          have e3 := h k'
          rw [inR_none, inR_cons_some b3 b2] at e1 e2 e3
          simp [b2] at e1 e2 e3
          omega
      | some k =>
        obtain ⟨a1, a2, a3⟩ := hR
        cases o' with
        | none =>
          exfalso
          obtain ⟨b1, b2⟩ := hS
          subst b2
          have e1 := h l
          have e2 := h l'
          have e3 := h k
          rw [inR_none, inR_cons_some a3 a2] at e1 e2 e3
          simp [a2] at e1 e2 e3
          omega
        | some k' =>
          obtain ⟨b1, b2, b3⟩ := hS
          have e1 := h l
          have e2 := h l'
          have e3 := h k
          have e4 := h k'
          rw [inR_cons_some a3 a2, inR_cons_some b3 b2] at e1 e2 e3 e4
          have el : l = l' := by
            by_cases c1 : l < l'
            · simp [c1, a2] at e1
            · by_cases c2 : l' < l
              · simp [c2, b2] at e2
              · omega
          subst el
          have ek : k = k' := by
            by_cases c1 : k < k'
            · have n1 : ¬ k < l := by omega
              simp [n1, c1] at e3
            · by_cases c2 : k' < k
              · have n1 : ¬ k' < l := by omega
                simp [n1, c2] at e4
              · omega
          subst ek
          have : R = S := ih a3 b3 fun x => by
            by_cases c : x ≤ k
            · rw [Can.less a3 x (by omega), Can.less b3 x (by omega)]
            · have e := h x
              rw [inR_cons_some a3 a2, inR_cons_some b3 b2] at e
              have n1 : ¬ x < l := by omega
              have n2 : ¬ x < k := by omega
              have n3 : ¬ x = k := by omega
              simpa [n1, n2, n3] using e
          rw [this]

/-! ### all but those -/
def restF : Nat → Rg → Rg
  | low, [] => [(low, none)]
  | low, (b, e) :: r => (if low < b then [(low, some b)] else []) ++ (match e with
    | none => []
    | some h => restF h r)
def restR (R : Rg) : Rg := restF 0 R
theorem restF_can : ∀ (R : Rg) (low : Nat), Can low R → Can low (restF low R)
  | [], low, _ => ⟨Nat.le_refl _, rfl⟩
  | (b, none) :: r, low, h => by
    obtain ⟨h1, h2⟩ := h
    unfold restF
    by_cases c : low < b
    · rw [if_pos c]
      exact ⟨Nat.le_refl _, c, trivial⟩
    · rw [if_neg c]
      trivial
  | (b, some k) :: r, low, h => by
    obtain ⟨h1, h2, h3⟩ := h
    have ih := restF_can r k (h3.mono (Nat.le_succ _))
    unfold restF
    by_cases c : low < b
    · rw [if_pos c]
      exact ⟨Nat.le_refl _, c, ih.mono h2⟩
    · rw [if_neg c]
      exact ih.mono (by omega)
theorem restF_in : ∀ (R : Rg) (low x : Nat), Can low R → low ≤ x → inR x (restF low R) = !inR x R
  | [], low, x, _, hx => by
    unfold restF
    rw [inR_none, decide_eq_true hx]
    rfl
  | (b, none) :: r, low, x, h, hx => by
    obtain ⟨h1, h2⟩ := h
    subst h2
    unfold restF
    rw [inR_none]
    by_cases c : low < b
    · rw [if_pos c]
      show inR x ((low, some b) :: []) = _
      rw [inR_cons_some (by trivial) c]
      by_cases c2 : x < b
      · simp [c2, show ¬ x < low by omega, show ¬ b ≤ x by omega]
      · simp [c2, show ¬ x < low by omega, show b ≤ x by omega, inR]
    · rw [if_neg c]
      simp [inR]
      omega
  | (b, some k) :: r, low, x, h, hx => by
    obtain ⟨h1, h2, h3⟩ := h
    have hc : Can k r := h3.mono (Nat.le_succ _)
    have cc := restF_can r k hc
    unfold restF
    rw [inR_cons_some h3 h2]
    have main : inR x (restF k r) = if x < k then false else if x = k then true else !inR x r := by
      by_cases c : x < k
      · rw [if_pos c]
        exact Can.less cc x c
      · rw [if_neg c, restF_in r k x hc (by omega)]
        by_cases c2 : x = k
        · rw [if_pos c2, Can.less h3 x (by omega)]
          rfl
        · rw [if_neg c2]
    by_cases c : low < b
    · rw [if_pos c]
      show inR x ((low, some b) :: restF k r) = _
      show ((decide (low ≤ x) && decide (x < b)) || inR x (restF k r)) = _
      rw [main]
      by_cases d1 : x < b
      · simp [hx, d1]
      · by_cases d2 : x < k
        · simp [d1, d2]
        · by_cases d3 : x = k <;> simp [d1, d2, d3]
    · rw [if_neg c]
      show inR x (restF k r) = _
      rw [main]
      by_cases d2 : x < k
      · simp [d2, show ¬ x < b by omega]
      · by_cases d3 : x = k <;> simp [d2, d3, show ¬ x < b by omega]
theorem restF_len : ∀ (R : Rg) (low : Nat), (restF low R).length ≤ R.length + 1
  | [], low => by simp [restF]
  | (b, none) :: r, low => by
    unfold restF
    by_cases c : low < b
    · rw [if_pos c]; simp
    · rw [if_neg c]; simp
  | (b, some k) :: r, low => by
    have ih := restF_len r k
    unfold restF
    by_cases c : low < b
    · rw [if_pos c]
      show (restF k r).length + 1 ≤ _
      simp
      omega
    · rw [if_neg c]
      show (restF k r).length ≤ _
      simp
      omega

/-! ### one of two -/
/-- the Python's turn: what is found, the next stretch -/
def unS (acc : Rg) (p : Sg) : Rg := match acc.getLast? with
  | none => acc ++ [p]
  | some (_, none) => acc
  | some (l, some h) => if h < p.1 then acc ++ [p] else match p.2 with
    | none => acc.dropLast ++ [(l, none)]
    | some k => if h < k then acc.dropLast ++ [(l, some k)] else acc
/-- the same from a last stretch on -/
def mrg : Sg → Rg → Rg
  | (l, none), _ => [(l, none)]
  | (l, some h), [] => [(l, some h)]
  | (l, some h), p :: r => if h < p.1 then (l, some h) :: mrg p r else mrg (l, match p.2 with
    | none => none
    | some k => some (max h k)) r
theorem fold_none (acc : Rg) (l : Nat) : ∀ L : Rg, L.foldl unS (acc ++ [(l, none)]) = acc ++ [(l, none)]
  | [] => rfl
  | p :: L => by
    rw [List.foldl_cons]
    have e : unS (acc ++ [(l, none)]) p = acc ++ [(l, none)] := by
      unfold unS
      rw [List.getLast?_concat]
    rw [e]
    exact fold_none acc l L
theorem fold_mrg : ∀ (L : Rg) (acc : Rg) (c : Sg), L.foldl unS (acc ++ [c]) = acc ++ mrg c L
  | [], acc, (l, none) => rfl
  | [], acc, (l, some h) => rfl
  | p :: L, acc, (l, none) => fold_none acc l (p :: L)
  | (a, o) :: L, acc, (l, some h) => by
    rw [List.foldl_cons]
    have e : unS (acc ++ [(l, some h)]) (a, o) = if h < a then (acc ++ [(l, some h)]) ++ [(a, o)] else acc ++ [(l, match o with
        | none => none
        | some k => some (max h k))] := by
      unfold unS
      rw [List.getLast?_concat]
      show (if h < a then _ else _) = _
      by_cases c : h < a
      · rw [if_pos c, if_pos c]
      · rw [if_neg c, if_neg c]
        cases o with
        | none =>
          show (acc ++ [(l, some h)]).dropLast ++ [(l, none)] = _
          rw [List.dropLast_concat]
        | some k =>
          show (if h < k then (acc ++ [(l, some h)]).dropLast ++ [(l, some k)] else acc ++ [(l, some h)]) = acc ++ [(l, some (max h k))]
          rw [List.dropLast_concat]
          by_cases d : h < k
          · rw [if_pos d, Nat.max_eq_right (Nat.le_of_lt d)]
          · rw [if_neg d, Nat.max_eq_left (by omega)]
    rw [e]
    unfold mrg
    by_cases c : h < a
    · rw [if_pos c, if_pos c, fold_mrg L (acc ++ [(l, some h)]) (a, o), List.append_assoc]
      rfl
    · rw [if_neg c, if_neg c]
      exact fold_mrg L acc _
/-- lows rise, each stretch is one -/
def Rise : Nat → Rg → Prop
  | _, [] => True
  | b, p :: r => b ≤ p.1 ∧ (∀ h, p.2 = some h → p.1 < h) ∧ Rise p.1 r
theorem Rise.mono {b c : Nat} : ∀ {R : Rg}, Rise c R → b ≤ c → Rise b R
  | [], _, _ => trivial
  | _ :: _, h, e => ⟨Nat.le_trans e h.1, h.2⟩
theorem Rise.less : ∀ {b : Nat} {R : Rg}, Rise b R → ∀ x, x < b → inR x R = false
  | _, [], _, _, _ => rfl
  | b, p :: r, h, x, hx => by
    obtain ⟨h1, _, h3⟩ := h
    have e : decide (p.1 ≤ x) = false := decide_eq_false (by omega)
    have e2 := Rise.less h3 x (by omega)
    simp [inR, e, e2]
theorem mrg_ok : ∀ (L : Rg) (c : Sg), Rise c.1 L → (∀ h, c.2 = some h → c.1 < h) → Can c.1 (mrg c L) ∧ ∀ x, inR x (mrg c L) = inR x (c :: L)
  | L, (l, none), hL, hc => by
    have e : mrg (l, none) L = [(l, none)] := by cases L <;> rfl
    rw [e]
    refine ⟨⟨Nat.le_refl _, rfl⟩, fun x => ?_⟩
    rw [inR_none]
    show _ = ((decide (l ≤ x) && true) || inR x L)
    by_cases c : l ≤ x
    · simp [c]
    · rw [Rise.less hL x (by show x < l; omega)]
      simp
  | [], (l, some h), hL, hc => ⟨⟨Nat.le_refl _, hc h rfl, trivial⟩, fun x => rfl⟩
  | (a, o) :: L, (l, some h), hL, hc => by
    obtain ⟨g1, g2, g3⟩ := hL
    have hl := hc h rfl
    unfold mrg
    by_cases c : h < a
    · rw [if_pos c]
      obtain ⟨i1, i2⟩ := mrg_ok L (a, o) g3 g2
      refine ⟨⟨Nat.le_refl _, hl, i1.mono c⟩, fun x => ?_⟩
      show ((decide (l ≤ x) && below x (some h)) || inR x (mrg (a, o) L)) = ((decide (l ≤ x) && below x (some h)) || inR x ((a, o) :: L))
      rw [i2 x]
    · rw [if_neg c]
      have g1' : l ≤ a := g1
      cases o with
      | none =>
        obtain ⟨i1, i2⟩ := mrg_ok L (l, none) (g3.mono g1) (fun h e => by cases e)
        refine ⟨i1, fun x => ?_⟩
        show inR x (mrg (l, none) L) = _
        rw [i2 x]
        show ((decide (l ≤ x) && true) || inR x L) = ((decide (l ≤ x) && decide (x < h)) || ((decide (a ≤ x) && true) || inR x L))
        by_cases d1 : l ≤ x
        · by_cases d2 : x < h
          · simp [d1, d2]
          · simp [d1, d2, show a ≤ x by omega]
        · simp [d1, show ¬ a ≤ x by omega]
      | some k =>
        have hk := g2 k rfl
        have hk : a < k := hk
        obtain ⟨i1, i2⟩ := mrg_ok L (l, some (max h k)) (g3.mono g1) (fun z e => by
          have := Option.some.inj e
          show l < z
          omega)
        refine ⟨i1, fun x => ?_⟩
        show inR x (mrg (l, some (max h k)) L) = _
        rw [i2 x]
        show ((decide (l ≤ x) && decide (x < max h k)) || inR x L) = ((decide (l ≤ x) && decide (x < h)) || ((decide (a ≤ x) && decide (x < k)) || inR x L))
        rw [← Bool.or_assoc]
        congr 1
        by_cases d1 : l ≤ x
        · by_cases d2 : x < h
          · simp [d1, d2, show x < max h k by omega]
          · by_cases d3 : x < k
            · simp [d1, d2, d3, show x < max h k by omega, show a ≤ x by omega]
            · simp [d1, d2, d3]
              omega
        · simp [d1, show ¬ a ≤ x by omega]
theorem mrg_len : ∀ (L : Rg) (c : Sg), (mrg c L).length ≤ L.length + 1
  | L, (l, none) => by
    have e : mrg (l, none) L = [(l, none)] := by cases L <;> rfl
    rw [e]
    simp
  | [], (l, some h) => Nat.le_refl _
  | p :: L, (l, some h) => by
    unfold mrg
    by_cases c : h < p.1
    · rw [if_pos c]
      have := mrg_len L p
      simp
      omega
    · rw [if_neg c]
      exact Nat.le_succ_of_le (mrg_len L _)
theorem un_ok (L : Rg) (h : Rise 0 L) : Can 0 (L.foldl unS []) ∧ (∀ x, inR x (L.foldl unS []) = inR x L) ∧ (L.foldl unS []).length ≤ L.length := by
  cases L with
  | nil => exact ⟨trivial, fun _ => rfl, Nat.le_refl _⟩
  | cons p L =>
    have e : (p :: L).foldl unS [] = mrg p L := by
      have := fold_mrg L [] p
      simpa [unS] using this
    rw [e]
    obtain ⟨h1, h2, h3⟩ := h
    obtain ⟨a, b⟩ := mrg_ok L p h3 h2
    exact ⟨a.mono (Nat.zero_le _), b, mrg_len L p⟩
theorem inR_any (x : Nat) : ∀ R : Rg, inR x R = R.any fun s => decide (s.1 ≤ x) && below x s.2
  | [] => rfl
  | s :: r => by
    rw [List.any_cons, ← inR_any x r]
    rfl
theorem inR_app (x : Nat) (R S : Rg) : inR x (R ++ S) = (inR x R || inR x S) := by
  rw [inR_any, inR_any, inR_any, List.any_append]
theorem inR_perm {x : Nat} {R S : Rg} (h : R.Perm S) : inR x R = inR x S := by
  rw [inR_any, inR_any, Bool.eq_iff_iff, List.any_eq_true, List.any_eq_true]
  constructor
  · rintro ⟨s, m, q⟩
    exact ⟨s, h.mem_iff.mp m, q⟩
  · rintro ⟨s, m, q⟩
    exact ⟨s, h.mem_iff.mpr m, q⟩
theorem can_seg : ∀ {b : Nat} {R : Rg}, Can b R → ∀ s ∈ R, ∀ h, s.2 = some h → s.1 < h
  | _, [], _, s, m, _, _ => by cases m
  | _, (l, none) :: r, h, s, m, k, e => by
    obtain ⟨_, h2⟩ := h
    subst h2
    rcases List.mem_cons.mp m with q | q
    · subst q
      cases e
    · cases q
  | _, (l, some z) :: r, h, s, m, k, e => by
    obtain ⟨_, h2, h3⟩ := h
    rcases List.mem_cons.mp m with q | q
    · subst q
      have := Option.some.inj e
      subst this
      exact h2
    · exact can_seg h3 s q k e
theorem rise_of : ∀ {L : Rg} {b : Nat}, L.Pairwise (fun p q => p.1 ≤ q.1) → (∀ s ∈ L, ∀ h, s.2 = some h → s.1 < h) → (∀ s ∈ L, b ≤ s.1) → Rise b L
  | [], _, _, _, _ => trivial
  | p :: L, b, hp, hs, hb => by
    obtain ⟨h1, h2⟩ := List.pairwise_cons.mp hp
    exact ⟨hb p List.mem_cons_self, hs p List.mem_cons_self, rise_of h2 (fun s m => hs s (List.mem_cons_of_mem _ m)) fun s m => h1 s m⟩
/-- the union, told by any order by lows -/
theorem union_ok {R S L : Rg} (hR : Can 0 R) (hS : Can 0 S) (hp : L.Perm (R ++ S)) (hs : L.Pairwise (fun p q => p.1 ≤ q.1)) :
    Can 0 (L.foldl unS []) ∧ (∀ x, inR x (L.foldl unS []) = (inR x R || inR x S)) ∧ (L.foldl unS []).length ≤ R.length + S.length := by
  have hr : Rise 0 L := rise_of hs (fun s m h e => by
    rcases List.mem_append.mp (hp.mem_iff.mp m) with q | q
    · exact can_seg hR s q h e
    · exact can_seg hS s q h e) fun _ _ => Nat.zero_le _
  obtain ⟨a, b, c⟩ := un_ok L hr
  refine ⟨a, fun x => ?_, ?_⟩
  · rw [b x, inR_perm hp, inR_app]
  · rw [hp.length_eq, List.length_append] at c
    exact c
end K3

/-! Points and rows of truths: the mathematics alone. -/
namespace K3
abbrev Asc (ps : List Nat) : Prop := ps.Pairwise (· < ·)
/-- the truth at the last point that is not beyond x -/
def atF : List Nat → List Bool → Nat → Bool
  | p :: ps, r :: rs, x => match ps with
    | [] => r
    | q :: _ => if x < q then r else atF ps rs x
  | _, _, _ => false
def rbS (acc : Rg) (p : Nat) (hi : Option Nat) (t : Bool) : Rg := if t = true then match acc.getLast? with
    | some (l, some h) => if h = p then acc.dropLast ++ [(l, hi)] else acc ++ [(p, hi)]
    | _ => acc ++ [(p, hi)]
  else acc
/-- the range by its truths at points -/
def rbF : Rg → List Nat → List Bool → Rg
  | acc, p :: ps, r :: rs => rbF (rbS acc p ps.head? r) ps rs
  | acc, _, _ => acc
def gF : Option Nat → List Nat → List Bool → Rg
  | none, p :: ps, r :: rs => if r = true then (match ps with
    | [] => [(p, none)]
    | _ :: _ => gF (some p) ps rs) else gF none ps rs
  | some l, p :: ps, r :: rs => if r = true then (match ps with
    | [] => [(l, none)]
    | _ :: _ => gF (some l) ps rs) else (l, some p) :: gF none ps rs
  | _, _, _ => []
def NoLast (acc : Rg) (p : Nat) : Prop := ∀ l, acc.getLast? ≠ some (l, some p)
theorem rbF_eq : ∀ (ps : List Nat) (rs : List Bool), rs.length = ps.length → Asc ps →
    (∀ acc : Rg, (∀ p ∈ ps, NoLast acc p) → rbF acc ps rs = acc ++ gF none ps rs) ∧
    (∀ (acc : Rg) (l p : Nat), ps.head? = some p → rbF (acc ++ [(l, some p)]) ps rs = acc ++ gF (some l) ps rs)
  | [], [], _, _ => ⟨fun acc _ => by simp [rbF, gF], fun acc l p h => by cases h⟩
  | [], _ :: _, hl, _ => by simp at hl
  | _ :: _, [], hl, _ => by simp at hl
  | p :: ps, r :: rs, hl, hA => by
    have hl' : rs.length = ps.length := by simpa using hl
    obtain ⟨hA1, hA2⟩ := List.pairwise_cons.mp hA
    obtain ⟨i1, i2⟩ := rbF_eq ps rs hl' hA2
    have after : ∀ (acc : Rg) (l : Nat), rbF (acc ++ [(l, some p)]) ps rs = acc ++ (l, some p) :: gF none ps rs := fun acc l => by
      have e := i1 (acc ++ [(l, some p)]) (fun q hq l' e => by
        rw [List.getLast?_concat] at e
        have h1 := Option.some.inj e
        injection h1 with h2 h3
        have h4 := Option.some.inj h3
        have h5 := hA1 q hq
        omega)
      rw [e, List.append_assoc]
      rfl
    constructor
    · intro acc hn
      have hn' := hn p List.mem_cons_self
      show rbF (rbS acc p ps.head? r) ps rs = _
      cases r with
      | false =>
        show rbF acc ps rs = acc ++ gF none ps rs
        exact i1 acc fun q hq => hn q (List.mem_cons_of_mem _ hq)
      | true =>
        have e1 : rbS acc p ps.head? true = acc ++ [(p, ps.head?)] := by
          unfold rbS
          rw [if_pos rfl]
          split
          · rename_i l h e
            rw [if_neg (fun z => hn' l (by rw [e, z]))]
          · rfl
        rw [e1]
        cases ps with
        | nil =>
          cases rs with
          | nil => rfl
          | cons _ _ => simp at hl'
        | cons q ps => exact i2 acc p q rfl
    · intro acc l p' hp
      have ep : p = p' := Option.some.inj hp
      subst ep
      show rbF (rbS (acc ++ [(l, some p)]) p ps.head? r) ps rs = _
      cases r with
      | false => exact after acc l
      | true =>
        have e1 : rbS (acc ++ [(l, some p)]) p ps.head? true = acc ++ [(l, ps.head?)] := by
          unfold rbS
          rw [if_pos rfl, List.getLast?_concat]
          show (if p = p then _ else _) = _
          rw [if_pos rfl, List.dropLast_concat]
        rw [e1]
        cases ps with
        | nil =>
          cases rs with
          | nil => rfl
          | cons _ _ => simp at hl'
        | cons q ps => exact i2 acc l q rfl
theorem rbF_nil {ps : List Nat} {rs : List Bool} (hl : rs.length = ps.length) (hA : Asc ps) : rbF [] ps rs = gF none ps rs := by
  have e := (rbF_eq ps rs hl hA).1 [] (fun p _ l e => by cases e)
  simpa using e
theorem gF_ok : ∀ (ps : List Nat) (rs : List Bool) (p : Nat), rs.length = (p :: ps).length → Asc (p :: ps) →
    (Can p (gF none (p :: ps) rs) ∧ ∀ x, inR x (gF none (p :: ps) rs) = (decide (p ≤ x) && atF (p :: ps) rs x)) ∧
    (∀ l, l < p → Can l (gF (some l) (p :: ps) rs) ∧ ∀ x, inR x (gF (some l) (p :: ps) rs) = (decide (l ≤ x) && (decide (x < p) || atF (p :: ps) rs x)))
  | _, [], _, hl, _ => by simp at hl
  | [], [r], p, _, _ => by
    cases r with
    | true =>
      refine ⟨⟨⟨Nat.le_refl _, rfl⟩, fun x => ?_⟩, fun l hlp => ⟨⟨Nat.le_refl _, rfl⟩, fun x => ?_⟩⟩
      · show inR x [(p, none)] = (decide (p ≤ x) && true)
        rw [inR_none]
        simp
      · show inR x [(l, none)] = (decide (l ≤ x) && (decide (x < p) || true))
        rw [inR_none]
        simp
    | false =>
      refine ⟨⟨trivial, fun x => ?_⟩, fun l hlp => ⟨⟨Nat.le_refl _, hlp, trivial⟩, fun x => ?_⟩⟩
      · show false = (decide (p ≤ x) && false)
        simp
      · show inR x [(l, some p)] = (decide (l ≤ x) && (decide (x < p) || false))
        simp [inR, below]
  | [], _ :: _ :: _, p, hl, _ => by simp at hl
  | q :: ps, r :: rs, p, hl, hA => by
    have hl' : rs.length = (q :: ps).length := by simpa using hl
    obtain ⟨hA1, hA2⟩ := List.pairwise_cons.mp hA
    have hpq : p < q := hA1 q List.mem_cons_self
    obtain ⟨⟨i1, i2⟩, i3⟩ := gF_ok ps rs q hl' hA2
    have ea : ∀ x, atF (p :: q :: ps) (r :: rs) x = if x < q then r else atF (q :: ps) rs x := fun x => rfl
    cases r with
    | true =>
      refine ⟨?_, fun l hlp => ?_⟩
      · obtain ⟨j1, j2⟩ := i3 p hpq
        refine ⟨j1, fun x => ?_⟩
        show inR x (gF (some p) (q :: ps) rs) = _
        rw [j2, ea]
        by_cases c : x < q <;> simp [c]
      · obtain ⟨j1, j2⟩ := i3 l (by omega)
        refine ⟨j1, fun x => ?_⟩
        show inR x (gF (some l) (q :: ps) rs) = _
        rw [j2, ea]
        by_cases c : x < q
        · simp [c]
        · simp [c, show ¬ x < p by omega]
    | false =>
      refine ⟨?_, fun l hlp => ?_⟩
      · refine ⟨i1.mono (Nat.le_of_lt hpq), fun x => ?_⟩
        show inR x (gF none (q :: ps) rs) = _
        rw [i2, ea]
        by_cases c : x < q
        · simp [c, show ¬ q ≤ x by omega]
        · simp [c, show q ≤ x by omega, show p ≤ x by omega]
      · refine ⟨⟨Nat.le_refl _, hlp, i1.mono hpq⟩, fun x => ?_⟩
        show ((decide (l ≤ x) && decide (x < p)) || inR x (gF none (q :: ps) rs)) = _
        rw [i2, ea]
        by_cases c : x < q
        · simp [c, show ¬ q ≤ x by omega]
        · simp [c, show q ≤ x by omega, show ¬ x < p by omega, show l ≤ x by omega]
/-- the range by its truths: what it is -/
theorem rbF_ok {ps : List Nat} {rs : List Bool} (hl : rs.length = ps.length) (hA : Asc ps) (h0 : ps.head? = some 0) : Can 0 (rbF [] ps rs) ∧ ∀ x, inR x (rbF [] ps rs) = atF ps rs x := by
  rw [rbF_nil hl hA]
  cases ps with
  | nil => cases h0
  | cons p ps =>
    have e : p = 0 := Option.some.inj h0
    subst e
    obtain ⟨⟨a, b⟩, _⟩ := gF_ok ps rs 0 hl hA
    exact ⟨a, fun x => by rw [b]; simp⟩

/-! ### ends -/
def endsOf (R : Rg) : List Nat := R.flatMap fun s => s.1 :: s.2.toList
theorem gF_ends : ∀ (ps : List Nat) (rs : List Bool) (c : Option Nat), ∀ e ∈ endsOf (gF c ps rs), e ∈ ps ∨ c = some e
  | [], _, none, e, h => by
    have : e ∈ endsOf [] := by
      cases ‹List Bool› <;> exact h
    cases this
  | [], _, some _, e, h => by
    have : e ∈ endsOf [] := by
      cases ‹List Bool› <;> exact h
    cases this
  | _ :: _, [], none, e, h => by
    have : e ∈ endsOf [] := h
    cases this
  | _ :: _, [], some _, e, h => by
    have : e ∈ endsOf [] := h
    cases this
  | p :: ps, r :: rs, none, e, h => by
    cases r with
    | false =>
      have h : e ∈ endsOf (gF none ps rs) := h
      rcases gF_ends ps rs none e h with q | q
      · exact .inl (List.mem_cons_of_mem _ q)
      · cases q
    | true =>
      cases ps with
      | nil =>
        have h : e ∈ endsOf [(p, none)] := h
        simp [endsOf] at h
        exact .inl (by simp [h])
      | cons q ps =>
        have h : e ∈ endsOf (gF (some p) (q :: ps) rs) := h
        rcases gF_ends (q :: ps) rs (some p) e h with z | z
        · exact .inl (List.mem_cons_of_mem _ z)
        · exact .inl (by rw [← Option.some.inj z]; exact List.mem_cons_self)
  | p :: ps, r :: rs, some l, e, h => by
    cases r with
    | false =>
      have h : e ∈ endsOf ((l, some p) :: gF none ps rs) := h
      have h : e ∈ [l, p] ++ endsOf (gF none ps rs) := h
      rcases List.mem_append.mp h with z | z
      · rcases List.mem_cons.mp z with z | z
        · exact .inr (by rw [z])
        · exact .inl (by rw [List.mem_singleton.mp z]; exact List.mem_cons_self)
      · rcases gF_ends ps rs none e z with q | q
        · exact .inl (List.mem_cons_of_mem _ q)
        · cases q
    | true =>
      cases ps with
      | nil =>
        have h : e ∈ endsOf [(l, none)] := h
        simp [endsOf] at h
        exact .inr (by rw [h])
      | cons q ps =>
        have h : e ∈ endsOf (gF (some l) (q :: ps) rs) := h
        rcases gF_ends (q :: ps) rs (some l) e h with z | z
        · exact .inl (List.mem_cons_of_mem _ z)
        · exact .inr z
theorem rbF_ends {ps : List Nat} {rs : List Bool} (hl : rs.length = ps.length) (hA : Asc ps) : ∀ e ∈ endsOf (rbF [] ps rs), e ∈ ps := fun e h => by
  rw [rbF_nil hl hA] at h
  rcases gF_ends ps rs none e h with q | q
  · exact q
  · cases q
theorem gF_len : ∀ (ps : List Nat) (rs : List Bool), (gF none ps rs).length ≤ ps.length ∧ ∀ l, (gF (some l) ps rs).length ≤ ps.length + 1
  | [], [] => ⟨Nat.zero_le _, fun _ => Nat.zero_le _⟩
  | [], _ :: _ => ⟨Nat.zero_le _, fun _ => Nat.zero_le _⟩
  | _ :: _, [] => ⟨Nat.zero_le _, fun _ => Nat.zero_le _⟩
  | p :: ps, r :: rs => by
    obtain ⟨i1, i2⟩ := gF_len ps rs
    cases r with
    | false =>
      refine ⟨?_, fun l => ?_⟩
      · show (gF none ps rs).length ≤ _
        simp
        omega
      · show (gF none ps rs).length + 1 ≤ _
        simp
        omega
    | true =>
      cases ps with
      | nil => exact ⟨Nat.le_refl _, fun l => Nat.le_succ _⟩
      | cons q ps =>
        refine ⟨?_, fun l => ?_⟩
        · have := i2 p
          show (gF (some p) (q :: ps) rs).length ≤ _
          simp at *
          omega
        · have := i2 l
          show (gF (some l) (q :: ps) rs).length ≤ _
          simp at *
          omega
theorem rbF_len {ps : List Nat} {rs : List Bool} (hl : rs.length = ps.length) (hA : Asc ps) : (rbF [] ps rs).length ≤ ps.length := by
  rw [rbF_nil hl hA]
  exact (gF_len ps rs).1

/-! ### a row of truths of a range -/
theorem inR_stab {x p : Nat} (hp : p ≤ x) : ∀ (R : Rg), (∀ e ∈ endsOf R, e ≤ p ∨ x < e) → inR x R = inR p R
  | [], _ => rfl
  | (l, o) :: r, h => by
    have ih := inR_stab hp r fun e m => h e (List.mem_append_right _ m)
    have hl := h l (List.mem_append_left _ List.mem_cons_self)
    unfold inR
    rw [ih]
    congr 1
    have e1 : decide (l ≤ x) = decide (l ≤ p) := by
      rw [Bool.eq_iff_iff, decide_eq_true_iff, decide_eq_true_iff]
      omega
    show (decide (l ≤ x) && below x o) = (decide (l ≤ p) && below p o)
    rw [e1]
    cases o with
    | none => rfl
    | some k =>
      have hk := h k (List.mem_append_left _ (List.mem_cons_of_mem _ (by simp)))
      congr 1
      show decide (x < k) = decide (p < k)
      rw [Bool.eq_iff_iff, decide_eq_true_iff, decide_eq_true_iff]
      omega
theorem row_ok (R : Rg) : ∀ (ps : List Nat) (p x : Nat), Asc (p :: ps) → p ≤ x → (∀ e ∈ endsOf R, e ∈ p :: ps ∨ e ≤ p) → inR x R = atF (p :: ps) ((p :: ps).map fun y => inR y R) x
  | [], p, x, _, hp, h => inR_stab hp R fun e m => .inl ((h e m).elim (fun z => by rw [List.mem_singleton.mp z]; exact Nat.le_refl _) id)
  | q :: ps, p, x, hA, hp, h => by
    obtain ⟨hA1, hA2⟩ := List.pairwise_cons.mp hA
    have hpq := hA1 q List.mem_cons_self
    show inR x R = if x < q then inR p R else atF (q :: ps) ((q :: ps).map fun y => inR y R) x
    by_cases c : x < q
    · rw [if_pos c]
      refine inR_stab hp R fun e m => ?_
      rcases h e m with z | z
      · rcases List.mem_cons.mp z with z | z
        · exact .inl (by omega)
        · refine .inr ?_
          rcases List.mem_cons.mp z with z | z
          · omega
          · have := (List.pairwise_cons.mp hA2).1 e z
            omega
      · exact .inl z
    · rw [if_neg c]
      refine row_ok R ps q x hA2 (by omega) fun e m => ?_
      rcases h e m with z | z
      · rcases List.mem_cons.mp z with z | z
        · exact .inr (by omega)
        · exact .inl z
      · exact .inr (by omega)
theorem row_of {R : Rg} {ps : List Nat} (hA : Asc ps) (h0 : ps.head? = some 0) (h : ∀ e ∈ endsOf R, e ∈ ps) (x : Nat) : inR x R = atF ps (ps.map fun y => inR y R) x := by
  cases ps with
  | nil => cases h0
  | cons p ps =>
    have e : p = 0 := Option.some.inj h0
    subst e
    exact row_ok R ps 0 x hA (Nat.zero_le _) fun e m => .inl (h e m)
theorem atF_zip (f : Bool → Bool → Bool) : ∀ (ps : List Nat) (rs ss : List Bool) (x : Nat), rs.length = ps.length → ss.length = ps.length → ps ≠ [] → atF ps (List.zipWith f rs ss) x = f (atF ps rs x) (atF ps ss x)
  | [], _, _, _, _, _, h => (h rfl).elim
  | _ :: _, [], _, _, h, _, _ => by simp at h
  | _ :: _, _ :: _, [], _, _, h, _ => by simp at h
  | [p], r :: rs, s :: ss, x, _, _, _ => rfl
  | p :: q :: ps, r :: rs, s :: ss, x, hr, hs, _ => by
    show (if x < q then f r s else atF (q :: ps) (List.zipWith f rs ss) x) = f (if x < q then r else atF (q :: ps) rs x) (if x < q then s else atF (q :: ps) ss x)
    by_cases c : x < q
    · simp only [if_pos c]
    · simp only [if_neg c]
      exact atF_zip f (q :: ps) rs ss x (by simpa using hr) (by simpa using hs) (by simp)
theorem atF_map (f : Bool → Bool) : ∀ (ps : List Nat) (rs : List Bool) (x : Nat), rs.length = ps.length → ps ≠ [] → atF ps (rs.map f) x = f (atF ps rs x)
  | [], _, _, _, h => (h rfl).elim
  | _ :: _, [], _, h, _ => by simp at h
  | [p], r :: rs, x, _, _ => rfl
  | p :: q :: ps, r :: rs, x, hr, _ => by
    show (if x < q then f r else atF (q :: ps) (rs.map f) x) = f (if x < q then r else atF (q :: ps) rs x)
    by_cases c : x < q
    · simp only [if_pos c]
    · simp only [if_neg c]
      exact atF_map f (q :: ps) rs x (by simpa using hr) (by simp)

/-! ### the first point with a truth -/
def firstT : List Nat → List Bool → Option Nat
  | p :: ps, r :: rs => if r = true then some p else firstT ps rs
  | _, _ => none
theorem gF_head : ∀ (ps : List Nat) (rs : List Bool), rs.length = ps.length → (gF none ps rs).head?.map (·.1) = firstT ps rs ∧ (ps ≠ [] → ∀ l, (gF (some l) ps rs).head?.map (·.1) = some l)
  | [], [], _ => ⟨rfl, fun h => (h rfl).elim⟩
  | [], _ :: _, h => by simp at h
  | _ :: _, [], h => by simp at h
  | p :: ps, r :: rs, h => by
    obtain ⟨i1, i2⟩ := gF_head ps rs (by simpa using h)
    cases r with
    | false => exact ⟨i1, fun _ l => rfl⟩
    | true =>
      cases ps with
      | nil => exact ⟨rfl, fun _ l => rfl⟩
      | cons q ps => exact ⟨i2 (by simp) p, fun _ l => i2 (by simp) l⟩
/-- a range of truths d: its least is the first point with a truth -/
theorem least_first {R : Rg} {ps : List Nat} {d : List Bool} (hl : d.length = ps.length) (hA : Asc ps) (h0 : ps.head? = some 0) (hR : Can 0 R) (h : ∀ x, inR x R = atF ps d x) : R.head?.map (·.1) = firstT ps d := by
  obtain ⟨a, b⟩ := rbF_ok hl hA h0
  have e : R = rbF [] ps d := can_uniq hR a fun x => by rw [h x, b x]
  rw [e, rbF_nil hl hA]
  exact (gF_head ps d hl).1
end K3

namespace K3
open PySem PySem.Spec PyProof.Rows L2
/-! ### what a piece of code leaves as it was: all but the code tables and the lists at M -/
abbrev Tbl := List (Addr × Str)
structure Go (T : Tbl) (M : List Addr) (H H' : Hp) : Prop where
  ext : ∀ b o, b ∉ M → H b = some o → (∀ ps, o ≠ .tbl ps) → H' b = some o
  tup : ∀ b xs, H b = some (.tup xs) → H' b = some (.tup xs)
  frz : ∀ b o u, H b = some (.frz o u) → H' b = some (.frz o u)
  back : ∀ b, H' b = none → H b = none
  tabs : LamX.Tabs T H → LamX.Tabs T H'
section
variable {T : Tbl} {M M' : List Addr} {H H1 H2 H' : Hp} {K : PySem.W.Frag} {p q a b : Addr} {xs ys : List V}
theorem Go.refl : Go T M H H := ⟨fun _ _ _ h _ => h, fun _ _ h => h, fun _ _ _ h => h, fun _ h => h, fun h => h⟩
theorem Go.trans (g : Go T M H H1) (k : Go T M H1 H2) : Go T M H H2 :=
  ⟨fun b o m h n => k.ext b o m (g.ext b o m h n) n, fun b xs h => k.tup b xs (g.tup b xs h), fun b o u h => k.frz b o u (g.frz b o u h), fun b h => g.back b (k.back b h), fun h => k.tabs (g.tabs h)⟩
theorem Go.mono (g : Go T M H H1) (h : ∀ b ∈ M, b ∈ M') : Go T M' H H1 := ⟨fun b o m => g.ext b o fun z => m (h b z), g.tup, g.frz, g.back, g.tabs⟩
theorem Go.any (g : Go T [] H H1) : Go T M H H1 := g.mono fun b z => by cases z
theorem upd_out {o : HO} (h : upd H p o b = none) : H b = none := by
  unfold upd at h
  split at h
  · cases h
  · exact h
/-- something new -/
theorem Go.new {o : HO} (h : H p = none) : Go T M H (upd H p o) :=
  ⟨fun b u _ e _ => by rw [upd_ne (ne_of_none e h)]; exact e, fun b xs e => by rw [upd_ne (ne_of_none e h)]; exact e, fun b u v e => by rw [upd_ne (ne_of_none e h)]; exact e, fun b e => upd_out e,
    fun t => t.ext fun b o e => by rw [upd_ne (ne_of_none e h)]; exact e⟩
theorem go_tabs_lst (t : LamX.Tabs T H) (h : H p = some (.lst xs)) : LamX.Tabs T (upd H p (.lst ys)) := fun z hz => by
  obtain ⟨ps, h1, h2, h3⟩ := t z hz
  refine ⟨ps, by rw [upd_ne (ne_of h1 h (by intro e; cases e))]; exact h1, h2, fun pos cv hc => ?_⟩
  obtain ⟨c, e1, e2⟩ := h3 pos cv hc
  exact ⟨c, e1, by rw [upd_ne (ne_of e2 h (by intro e; unfold LamX.CodeO at e; cases e))]; exact e2⟩
/-- a list at M is written -/
theorem Go.wr (m : p ∈ M) (h : H p = some (.lst xs)) : Go T M H (upd H p (.lst ys)) :=
  ⟨fun b u n e _ => by rw [upd_ne (show b ≠ p from fun z => n (by rw [z]; exact m))]; exact e, fun b xs e => by rw [upd_ne (ne_of e h (by intro e; cases e))]; exact e, fun b u v e => by rw [upd_ne (ne_of e h (by intro e; cases e))]; exact e, fun b e => upd_out e, fun t => go_tabs_lst t h⟩
/-- a list that is new behind H is written -/
theorem Go.mut (g : Go T M H H') (n : H p = none) (h : H' p = some (.lst xs)) : Go T M H (upd H' p (.lst ys)) :=
  ⟨fun b u m e k => by rw [upd_ne (ne_of_none e n)]; exact g.ext b u m e k, fun b xs e => by rw [upd_ne (ne_of_none e n)]; exact g.tup b xs e, fun b u v e => by rw [upd_ne (ne_of_none e n)]; exact g.frz b u v e,
    fun b e => g.back b (upd_out e), fun t => go_tabs_lst (g.tabs t) h⟩
theorem Go.lst (g : Go T M H H1) (h : H p = some (.lst xs)) (m : p ∉ M := by simp) : H1 p = some (.lst xs) := g.ext p _ m h fun ps e => by cases e
theorem Go.sqt (g : Go T M H H1) (h : SqT K H a xs) : SqT K H1 a xs := by
  rcases h with (h | ⟨o, h⟩) | h
  · exact .inl (.inl (g.tup a xs h))
  · exact .inl (.inr ⟨o, g.frz a o _ h⟩)
  · exact .inr h
theorem Go.sql (g : Go T M H H1) (h : SqL K H a xs) (m : a ∉ M := by simp) : SqL K H1 a xs := by
  rcases h with (h | ⟨o, h⟩) | h
  · exact .inl (.inl (g.lst h m))
  · exact .inl (.inr ⟨o, g.frz a o _ h⟩)
  · exact .inr h
theorem Go.dt {kvs : List (List Key × V)} (g : Go T M H H1) (h : H p = some (.dT kvs)) (m : p ∉ M := by simp) : H1 p = some (.dT kvs) := g.ext p _ m h fun ps e => by cases e
end
/-! ### versions, stretches, ranges as things of the heap; Tp a xs: at a stands the tuple xs -/
abbrev VA (n : Nat) : Int := ((n / 1000000000000 : Nat) : Int)
abbrev VB (n : Nat) : Int := ((n / 1000000 % 1000000 : Nat) : Int)
abbrev VC (n : Nat) : Int := ((n % 1000000 : Nat) : Int)
abbrev vI (n : Nat) : List Int := [VA n, VB n, VC n]
/-- all versions are below -/
abbrev MX : Nat := 1000000000000000000
abbrev TP := Addr → List V → Prop
def IsV (Tp : TP) (v : V) (n : Nat) : Prop := ∃ p, v = .ref p ∧ Tp p ((vI n).map V.int) ∧ n < MX
def IsE (Tp : TP) (v : V) : Option Nat → Prop
  | none => v = .non
  | some n => IsV Tp v n
def IsS (Tp : TP) (v : V) (s : Sg) : Prop := ∃ p a b, v = .ref p ∧ Tp p [a, b] ∧ IsV Tp a s.1 ∧ IsE Tp b s.2
abbrev AllS (Tp : TP) : List V → Rg → Prop := Paired (IsS Tp)
def IsR (Tp : TP) (v : V) (R : Rg) : Prop := ∃ p vs, v = .ref p ∧ Tp p vs ∧ AllS Tp vs R
/-- the tuples that are tracked -/
abbrev Th (H : Hp) : TP := fun a xs => H a = some (.tup xs)
section
variable {Tp Tq : TP} {v : V} {n : Nat} {o : Option Nat} {s : Sg} {R : Rg} {vs : List V}
theorem IsV.imp (h : IsV Tp v n) (f : ∀ a xs, Tp a xs → Tq a xs) : IsV Tq v n := let ⟨p, e, t, l⟩ := h; ⟨p, e, f _ _ t, l⟩
theorem IsE.imp (h : IsE Tp v o) (f : ∀ a xs, Tp a xs → Tq a xs) : IsE Tq v o := by
  cases o with
  | none => exact h
  | some n => exact IsV.imp h f
theorem IsS.imp (h : IsS Tp v s) (f : ∀ a xs, Tp a xs → Tq a xs) : IsS Tq v s := let ⟨p, a, b, e, t, x, y⟩ := h; ⟨p, a, b, e, f _ _ t, x.imp f, y.imp f⟩
theorem AllS.imp (h : AllS Tp vs R) (f : ∀ a xs, Tp a xs → Tq a xs) : AllS Tq vs R := Paired.mapP h fun _ _ x => x.imp f
theorem IsR.imp (h : IsR Tp v R) (f : ∀ a xs, Tp a xs → Tq a xs) : IsR Tq v R := let ⟨p, vs, e, t, x⟩ := h; ⟨p, vs, e, f _ _ t, AllS.imp x f⟩
end
section
variable {T : Tbl} {M : List Addr} {H H1 : Hp} {K : PySem.W.Frag} {v : V} {n : Nat} {o : Option Nat} {s : Sg} {R : Rg} {vs : List V}
theorem IsV.go (h : IsV (SqT K H) v n) (g : Go T M H H1) : IsV (SqT K H1) v n := h.imp fun _ _ => g.sqt
theorem IsE.go (h : IsE (SqT K H) v o) (g : Go T M H H1) : IsE (SqT K H1) v o := h.imp fun _ _ => g.sqt
theorem IsS.go (h : IsS (SqT K H) v s) (g : Go T M H H1) : IsS (SqT K H1) v s := h.imp fun _ _ => g.sqt
theorem AllS.go (h : AllS (SqT K H) vs R) (g : Go T M H H1) : AllS (SqT K H1) vs R := AllS.imp h fun _ _ => g.sqt
theorem IsR.go (h : IsR (SqT K H) v R) (g : Go T M H H1) : IsR (SqT K H1) v R := h.imp fun _ _ => g.sqt
theorem IsV.goH (h : IsV (Th H) v n) (g : Go T M H H1) : IsV (Th H1) v n := h.imp fun a xs => g.tup a xs
theorem IsE.goH (h : IsE (Th H) v o) (g : Go T M H H1) : IsE (Th H1) v o := h.imp fun a xs => g.tup a xs
theorem IsS.goH (h : IsS (Th H) v s) (g : Go T M H H1) : IsS (Th H1) v s := h.imp fun a xs => g.tup a xs
theorem AllS.goH (h : AllS (Th H) vs R) (g : Go T M H H1) : AllS (Th H1) vs R := AllS.imp h fun a xs => g.tup a xs
theorem IsR.goH (h : IsR (Th H) v R) (g : Go T M H H1) : IsR (Th H1) v R := h.imp fun a xs => g.tup a xs
theorem IsR.soft (h : IsR (Th H) v R) : IsR (SqT K H) v R := h.imp fun a xs => SqT.of
theorem IsV.soft (h : IsV (Th H) v n) : IsV (SqT K H) v n := h.imp fun a xs => SqT.of
end
/-! ### the same as data -/
def verD (n : Nat) : PyData := .tuple [.int (VA n), .int (VB n), .int (VC n)]
def endD : Option Nat → PyData
  | none => .none
  | some n => verD n
def segD (s : Sg) : PyData := .tuple [verD s.1, endD s.2]
def rngD (R : Rg) : PyData := .tuple (R.map segD)
section
variable {H : Hp} {K : PySem.W.Frag} {v : V} {n m : Nat} {o o' : Option Nat} {s s' : Sg} {R S : Rg} {vs : List V}
theorem IsV.dp (h : IsV (SqT K H) v n) : Dp K H v (verD n) := by
  obtain ⟨p, rfl, t, _⟩ := h
  exact .tup t (.cons (.int _) (.cons (.int _) (.cons (.int _) .nil)))
theorem IsE.dp (h : IsE (SqT K H) v o) : Dp K H v (endD o) := by
  cases o with
  | none =>
    have e : v = .non := h
    subst e
    exact .non
  | some n => exact IsV.dp h
theorem IsS.dp (h : IsS (SqT K H) v s) : Dp K H v (segD s) := by
  obtain ⟨p, a, b, rfl, t, x, y⟩ := h
  exact .tup t (.cons x.dp (.cons y.dp .nil))
theorem AllS.dp : ∀ {vs : List V} {R : Rg}, AllS (SqT K H) vs R → DpAll K H vs (R.map segD)
  | _, _, .nil => .nil
  | _, _, .cons x r => .cons x.dp (AllS.dp r)
theorem IsR.dp (h : IsR (SqT K H) v R) : Dp K H v (rngD R) := by
  obtain ⟨p, vs, rfl, t, x⟩ := h
  exact .tup t (AllS.dp x)
theorem ver_parts (n : Nat) : n = n / 1000000000000 * 1000000000000 + n / 1000000 % 1000000 * 1000000 + n % 1000000 := by omega
theorem verD_eqv : PyData.eqv (verD n) (verD m) = decide (n = m) := by
  have e : PyData.eqv (verD n) (verD m) = ((VA n == VA m) && ((VB n == VB m) && ((VC n == VC m) && true))) := rfl
  rw [e, Bool.eq_iff_iff]
  simp only [Bool.and_eq_true, beq_iff_eq, decide_eq_true_iff, and_true, VA, VB, VC]
  have h1 := ver_parts n
  have h2 := ver_parts m
  constructor
  · rintro ⟨a, b, c⟩
    omega
  · rintro rfl
    exact ⟨rfl, rfl, rfl⟩
theorem endD_eqv : PyData.eqv (endD o) (endD o') = decide (o = o') := by
  cases o with
  | none => cases o' <;> rfl
  | some n => cases o' with
    | none => rfl
    | some m =>
      show PyData.eqv (verD n) (verD m) = _
      rw [verD_eqv]
      simp
theorem segD_eqv : PyData.eqv (segD s) (segD s') = decide (s = s') := by
  have e : PyData.eqv (segD s) (segD s') = (PyData.eqv (verD s.1) (verD s'.1) && (PyData.eqv (endD s.2) (endD s'.2) && true)) := rfl
  rw [e, verD_eqv, endD_eqv]
  obtain ⟨a, b⟩ := s
  obtain ⟨c, d⟩ := s'
  rw [Bool.eq_iff_iff]
  simp
theorem segs_eqv : ∀ {R S : Rg}, PyData.eqvAll (R.map segD) (S.map segD) = decide (R = S)
  | [], [] => rfl
  | [], _ :: _ => rfl
  | _ :: _, [] => rfl
  | s :: R, s' :: S => by
    have e : PyData.eqvAll ((s :: R).map segD) ((s' :: S).map segD) = (PyData.eqv (segD s) (segD s') && PyData.eqvAll (R.map segD) (S.map segD)) := rfl
    rw [e, segD_eqv, segs_eqv, Bool.eq_iff_iff]
    simp
theorem rngD_eqv : PyData.eqv (rngD R) (rngD S) = decide (R = S) := segs_eqv
end
theorem canLay_ver (n : Nat) : (verD n).canLay0 = true := rfl
theorem canLay_end : ∀ o : Option Nat, (endD o).canLay0 = true
  | none => rfl
  | some _ => rfl
theorem canLay_seg (s : Sg) : (segD s).canLay0 = true := by
  have e : (segD s).canLay0 = ((verD s.1).canLay0 && ((endD s.2).canLay0 && true)) := rfl
  rw [e, canLay_ver, canLay_end]
  rfl
theorem canLay_segs : ∀ R : Rg, PyData.canLayAll0 (R.map segD) = true
  | [] => rfl
  | s :: R => by
    have e : PyData.canLayAll0 ((s :: R).map segD) = ((segD s).canLay0 && PyData.canLayAll0 (R.map segD)) := rfl
    rw [e, canLay_seg, canLay_segs R]
    rfl
theorem canLay_rng (R : Rg) : (rngD R).canLay0 = true := canLay_segs R
theorem depth_ver (n : Nat) : (verD n).depth = 1 := rfl
theorem depth_end : ∀ o : Option Nat, (endD o).depth ≤ 1
  | none => Nat.zero_le _
  | some _ => Nat.le_refl _
theorem depth_seg (s : Sg) : (segD s).depth ≤ 2 := by
  have e : (segD s).depth = max (verD s.1).depth (max (endD s.2).depth 0) + 1 := rfl
  have := depth_end s.2
  rw [e, depth_ver]
  omega
theorem depth_segs : ∀ R : Rg, PyData.depthAll (R.map segD) ≤ 2
  | [] => Nat.zero_le _
  | s :: R => by
    have e : PyData.depthAll ((s :: R).map segD) = max (segD s).depth (PyData.depthAll (R.map segD)) := rfl
    have h1 := depth_seg s
    have h2 := depth_segs R
    rw [e]
    omega
theorem depth_rng (R : Rg) : (rngD R).depth ≤ 3 := Nat.succ_le_succ (depth_segs R)
theorem shaped_of {d : PyData} (h : d.canLay0 = true) (k : d.depth ≤ 64) : SeqAt.shaped d = true := by
  unfold SeqAt.shaped
  rw [h, decide_eq_true k]
  rfl
theorem shaped_rng (R : Rg) : SeqAt.shaped (rngD R) = true := shaped_of (canLay_rng R) (Nat.le_trans (depth_rng R) (by decide))
theorem shaped_ver (n : Nat) : SeqAt.shaped (verD n) = true := shaped_of (canLay_ver n) (by rw [depth_ver]; decide)
theorem shaped_end (o : Option Nat) : SeqAt.shaped (endD o) = true := shaped_of (canLay_end o) (Nat.le_trans (depth_end o) (by decide))
end K3

/-! lambdas with parameters: made, called -/
namespace K3
open PySem PySem.Spec PyProof.Rows L2
/-- a lambda's words, the cells that it captured, its code object -/
structure LF where
  qual : Str
  params : Arguments
  body : Expr
  scope : Scope
  cl : List (Str × Addr)
  c : Addr
abbrev LF.fd (F : LF) (pm ctv : Value) : FuncData := PySem.W.kla_fn "<lambda>" F.qual F.params F.body F.scope F.cl pm (.ref F.c) ctv
/-- the object at f is the lambda F -/
def LamO (f : Addr) (F : LF) : HO := .ext fun h => ∃ (od : Option Addr) (sl : Array (Option Value)) (pm ctv : Value), h.get? f = some (⟨.type "function", od, .func (F.fd pm ctv), sl⟩ : Obj)
theorem lamO_ne {f : Addr} {F : LF} (ps : Array Value) : LamO f F ≠ .tbl ps := fun z => by
  unfold LamO at z
  cases z
theorem lamO_at {P : Program} {w : World} {H : Hp} {h : Heap} {f : Addr} {F : LF} (hok : HOk P w H h) (e : H f = some (LamO f F)) : ∃ (od : Option Addr) (sl : Array (Option Value)) (pm ctv : Value), h.get? f = some (⟨.type "function", od, .func (F.fd pm ctv), sl⟩ : Obj) := by
  obtain ⟨z, _, _⟩ := hok f _ e
  exact z
section
variable {X : Cx} {pins : List (Addr × Obj)} {σ : L2.St} {H : Hp} {s : Shared}
theorem inv_lam {F : LF} {o : Obj} {t' : Nat} {pm ctv : Value} (I : Inv X pins σ H s) (ho : o = { cls := .type "function", data := .func (F.fd pm ctv) }) :
    Inv X pins σ (upd H s.heap.objs.size (LamO s.heap.objs.size F)) { s with heap := s.heap.push o, toks := t' } := by
  subst ho
  refine I.laid (a := s.heap.objs.size) (fun b u e => Heap.get?_push_of_some _ e) (Nat.le_refl _) ?_
  have e : (s.heap.push ({ cls := .type "function", data := .func (F.fd pm ctv) } : Obj)).get? s.heap.objs.size = some ({ cls := .type "function", data := .func (F.fd pm ctv) } : Obj) := Heap.get?_push_size _ rfl
  exact ⟨⟨_, _, pm, ctv, e⟩, ⟨_, e⟩, fun h1 h2 ⟨od, sl, p, t, z⟩ st => ⟨od, sl, p, t, st _ z⟩⟩
/-- the lambda is made -/
theorem lam_make {T : Tbl} {c P : Addr} {params : Arguments} {body : Expr} {scope : Scope} {pos : Pos} {E : Value → Shared → Prop} {Q : Value → Shared → Prop} (I : Inv X pins σ H s) (TB : LamX.TabB X.base X.mg c P) (hcode : X.env.code = .ref c)
    (hm : (P, X.env.qual ++ "<lambda>") ∈ T) (hu : ∀ p ∈ T, p.1 = P → p.2 = X.env.qual ++ "<lambda>") (hT : LamX.Tabs T H) (hdef : defaultsOf params X.env = ([], [])) (hfree : ∀ y ∈ scope.names, y.2 = .free → ∃ c, X.env.cells.lookup y.1 = some c)
    (h : ∀ (f c' : Addr) (H1 : Hp) (s' : Shared), Inv X pins σ H1 s' → Go T [] H H1 → H f = none → H1 f = some (LamO f ⟨X.env.qual ++ "<lambda>", params, body, scope, cloFrom X.env.cells scope.names [], c'⟩) → H1 c' = some (LamX.CodeO c' (X.env.qual ++ "<lambda>")) → Q (.ref f) s') :
    wpAny (model X.prog X.w) X.A (eval (.Lambda params body scope pos) X.env) Q E s := by
  obtain ⟨ps, hP, ht, ha⟩ := hT _ hm
  refine PySem.W.kla_eval hdef ?_
  have bP : s.heap.BuiltinsAt X.mg P := TB.bm.keeps I.bk
  have hP' : s.heap.get? P = some { cls := .none, data := .fields ps } := I.hok P _ hP
  -- behind the tables' turn: H2, then the function object
  have fin : ∀ (H2 : Hp) (h' : Heap) (tk c' : Addr) (pm ctv : Value) (o : Obj), Inv X pins σ H2 { s with heap := h', toks := tk } → Go T [] H H2 → s.heap.objs.size ≤ h'.objs.size → H2 c' = some (LamX.CodeO c' (X.env.qual ++ "<lambda>")) →
      o = { cls := .type "function", data := .func (LF.fd ⟨X.env.qual ++ "<lambda>", params, body, scope, cloFrom X.env.cells scope.names [], c'⟩ pm ctv) } → Q (.ref h'.objs.size) { s with heap := h'.push o, toks := tk } := by
    intro H2 h' tk c' pm ctv o I2 g2 hsz hc ho
    have nF : H2 h'.objs.size = none := I2.hok.fresh (Nat.le_refl _)
    have I3 := inv_lam (F := ⟨X.env.qual ++ "<lambda>", params, body, scope, cloFrom X.env.cells scope.names [], c'⟩) (t' := tk) (pm := pm) (ctv := ctv) I2 ho
    refine h h'.objs.size c' _ _ I3 (g2.trans (Go.new nF)) (I.hok.fresh hsz) upd_same ?_
    rw [upd_ne (ne_of_none hc nF)]
    exact hc
  cases hc : codeAmong pos ps.toList with
  | none =>
    refine PySem.W.kla_makeFunction (mg := X.mg) (c := c) (P := P) (ps := ps) (closure_ok hfree) I.ok.glob (I.mod.glob.keeps I.bk) hcode (TB.code.keeps I.bk) hP' ht hc TB.gP bP fun c' ctv h' tk hx hge hlt hrec htb => ?_
    obtain ⟨c2, oc, vs, t, e2, hoc, hd, hv⟩ := hrec
    cases e2
    have nC : H c' = none := I.hok.fresh hge
    have I1 := LamX.inv_table (t' := tk) (more := #[rawInt pos.line, rawInt pos.col, .ref c']) (h' := h') I hP (fun b o hb e => hx b o hb e) htb hge ⟨oc, vs, t, hoc, hd, hv⟩
    have nP : ∀ b u, H b = some u → (∀ q, u ≠ .tbl q) → b ≠ P := fun b u e q z => q ps (Option.some.inj (e.symm.trans (by rw [z]; exact hP)))
    have at_ : ∀ b u, H b = some u → (∀ q, u ≠ .tbl q) → upd (upd H P (.tbl (ps ++ #[rawInt pos.line, rawInt pos.col, .ref c']))) c' (LamX.CodeO c' (X.env.qual ++ "<lambda>")) b = some u := fun b u e q => by
      rw [upd_ne (ne_of_none e nC), upd_ne (nP b u e q)]
      exact e
    have eL : (ps ++ #[rawInt pos.line, rawInt pos.col, .ref c']).toList = ps.toList ++ [rawInt pos.line, rawInt pos.col, .ref c'] := by simp
    refine fin _ h' tk c' _ ctv _ I1 ⟨fun b o _ e q => at_ b o e q, fun b xs e => at_ b _ e (fun q z => by cases z), fun b o u e => at_ b _ e (fun q z => by cases z), fun b e => upd_out (upd_out e), fun _ => fun p hp => ?_⟩ (Nat.le_trans hge (Nat.le_of_lt hlt)) upd_same rfl
    by_cases hb : p.1 = P
    · rw [hu p hp hb, hb]
      refine ⟨_, by rw [upd_ne (ne_of_none hP nC), upd_same], by rw [eL]; exact PySem.TriplesOk_snoc _ _ _ _ ht, fun p' cv hcv => ?_⟩
      rw [eL] at hcv
      rcases LamX.among_app _ ht hcv with z | z
      · obtain ⟨c0, e1, e2⟩ := ha p' cv z
        exact ⟨c0, e1, at_ _ _ e2 LamX.codeO_ne⟩
      · exact ⟨c', z, upd_same⟩
    · obtain ⟨ps', a1, a2, a3⟩ := hT p hp
      refine ⟨ps', by rw [upd_ne (ne_of_none a1 nC), upd_ne hb]; exact a1, a2, fun p' cv hcv => ?_⟩
      obtain ⟨c0, e1, e2⟩ := a3 p' cv hcv
      exact ⟨c0, e1, at_ _ _ e2 LamX.codeO_ne⟩
  | some cv =>
    obtain ⟨c', e, hco⟩ := ha pos cv hc
    subst e
    refine PySem.W.kla_makeFunctionHit (mg := X.mg) (c := c) (P := P) (ps := ps) (closure_ok hfree) I.ok.glob (I.mod.glob.keeps I.bk) hcode (TB.code.keeps I.bk) hP' ht hc bP fun ctv h' tk hx hsz => ?_
    exact fin H h' tk c' _ ctv _ (I.kept hx) Go.refl hsz hco rfl
end
/-- the reading of a lambda: a new function object f -/
def tLam (T : Tbl) (mk : Addr → LF) : TE := fun _ H Q => LamX.Tabs T H ∧ ∀ (f c' : Addr) (H1 : Hp), Go T [] H H1 → H f = none → H1 f = some (LamO f (mk c')) → H1 c' = some (LamX.CodeO c' (mk c').qual) → Q (.ref f) H1
section
variable {X : Cx}
theorem pe_lam {T : Tbl} {c P : Addr} {params : Arguments} {body : Expr} {scope : Scope} {pos : Pos} (TB : LamX.TabB X.base X.mg c P) (hcode : X.env.code = .ref c) (hm : (P, X.env.qual ++ "<lambda>") ∈ T) (hu : ∀ p ∈ T, p.1 = P → p.2 = X.env.qual ++ "<lambda>") (hdef : defaultsOf params X.env = ([], []))
    (hfree : ∀ y ∈ scope.names, y.2 = .free → X.env.scope.names.lookup y.1 = some .cell ∨ X.env.scope.names.lookup y.1 = some .free) :
    PE X (.Lambda params body scope pos) (tLam T fun c' => ⟨X.env.qual ++ "<lambda>", params, body, scope, cloFrom X.env.cells scope.names [], c'⟩) := by
  refine ⟨fun pins s σ H Q I h => ?_⟩
  obtain ⟨hT, h⟩ := h
  exact lam_make I TB hcode hm hu hT hdef (fun y hy e => (hfree y hy e).elim (fun z => I.ok.has _ (.inl z)) fun z => I.ok.has _ (.inr z)) fun f c' H1 s' I1 g f0 f1 c1 => ⟨.ref f, H1, I1, rfl, h f c' H1 g f0 f1 c1⟩
end
/-! ### a lambda's body, its call -/
abbrev envL (F : LF) (f L : Addr) : Env := PySem.W.envX F.qual F.scope L f (.ref F.c) F.cl
/-- the context of its body -/
def lcx (CX : CXT) (P : Program) (w : World) (K : PySem.W.Frag) (mg : Str → Option Value) (base : Heap) (N : List Str) (F : LF) (f : Addr) (A : Around) (outer : List Env) (s : Shared) (H : Hp) (E : XK) : Cx where
  prog := P
  w := w
  K := K
  mg := mg
  base := base
  A := A.deeper (envL F f s.heap.objs.size)
  N := N
  s_0 := s
  H_0 := H
  env := envL F f s.heap.objs.size
  outer := outer
  stack := envL F f s.heap.objs.size :: outer
  ex := []
  calm := true
  fn := fun _ => false
  pn := []
  xe := fun e s' => wpAny (model P w) (A.deeper (envL F f s.heap.objs.size)) (leaving (envL F f s.heap.objs.size) e) (fun _ s'' => CX outer H s E e s'') (fun e' s'' => CX outer H s E e' s'') s'
/-- the same function, told as a nested def's record (for its cells and names alone) -/
def LF.nf (F : LF) : NdefX.NF := ⟨"<lambda>", F.qual, F.params, [], F.scope, F.cl, F.c⟩
section
variable {CX : CXT} {P : Program} {w : World} {K : PySem.W.Frag} {mg : Str → Option Value} {base : Heap} {N ps fr : List Str} {F : LF} {f : Addr} {k j : Nat} {sp : List (Option V) → Sp}
/-- what a lambda promises: ws, what its captured cells hold -/
structure LOk (P : Program) (w : World) (K : PySem.W.Frag) (mg : Str → Option Value) (base : Heap) (CX : CXT) (k : Nat) (f : Addr) (F : LF) (ps fr : List Str) (sp : List (Option V) → Sp) : Prop where
  len : ∀ ws vs H Q E, sp ws vs H Q E → vs.length = ps.length
  run : ∀ (A : Around) (outer : List Env) (s : Shared) (H : Hp) (us : List Value) (vs : List V) (ws : List (Option V)) (Q : VK) (E : XK), Room k A → Env0 P w K mg base A outer s H → H f = some (LamO f F) → H F.c = some (LamX.CodeO F.c F.qual) →
    NdefX.CellsAt F.cl fr ws s.heap H → Vals vs us → sp ws vs H Q E → codeAny (model P w) A (.call (.ref f) ⟨us, []⟩) (CR CX outer P w H s Q E) s
theorem lok_of (S : NdefX.NScope N ps fr F.scope) (hb : ∀ (pm ctv : Value) (us : List Value), us.length = ps.length → bindArgs (F.fd pm ctv) ⟨us, []⟩ = pure (ps.zip us)) (len : ∀ ws vs H Q E, sp ws vs H Q E → vs.length = ps.length)
    (hbody : ∀ (A : Around) (outer : List Env) (s : Shared) (H : Hp) (vs : List V) (ws : List (Option V)) (Q : VK) (E : XK), Room k (A.deeper (envL F f s.heap.objs.size)) → ws.length = fr.length → sp ws vs H Q E →
      ∃ t, PE (lcx CX P w K mg base N F f A outer s H E) F.body t ∧ t (NdefX.startF N vs ws) H Q) :
    LOk P w K mg base CX (k + 1) f F ps fr sp := by
  refine ⟨len, fun A outer s H us vs ws Q E hr e0 hf hc C r hsp => ?_⟩
  have hl := len _ _ _ _ _ hsp
  have lim : s.heap.NoLimit := e0.mod.nolimit.keeps fun b o e => (e0.bs b o e).1
  obtain ⟨od, sl, pm, ctv, ho⟩ := lamO_at e0.hok hf
  refine PySem.W.kla_callFunE hr.depth ho rfl S.co S.gen rfl (NdefX.codeO_at e0.hok hc) ?_
  rw [hb pm ctv us (by rw [← r.length]; exact hl)]
  refine wpAny_pure (wpAny_newFunctionEnv S.nocell (fun ⟨n, _⟩ hy => S.par n (List.of_mem_zip hy).1) (fun h₁ hns hsb => ⟨lim.fresh _ hsb, ?_⟩) S.kind)
  show codeAny _ _ (.expr F.body (envL F f s.heap.objs.size)) _ _
  have kp : ∀ b o, s.heap.get? b = some o → h₁.get? b = some o := fun b o e => hsb.extBut b o (Nat.ne_of_lt (Heap.lt_size e)) (Heap.get?_push_of_some _ e)
  obtain ⟨t, ht, hq⟩ := hbody A outer s H vs ws Q E (hr.deeper _) C.len hsp
  have I : Inv (lcx CX P w K mg base N F f A outer s H E) [] (NdefX.startF N vs ws) H { s with heap := h₁, toks := s.toks + (ps.zip us).length } :=
    NdefX.inv_startN (F := F.nf) (f := f) S hr.hd e0 hl r C hns kp
  refine PySem.W.kla_codeExpr (wpAny_mono (ht.run [] _ (NdefX.startF N vs ws) H Q I hq) (fun v s' hs => ?_) fun e s' hs => hs)
  obtain ⟨x, H', J, rv, q⟩ := hs
  exact ⟨x, H', J.os, J.bare, J.base, J.hok, rv, q⟩
end
section
variable {X : Cx} {pins : List (Addr × Obj)} {σ : L2.St} {H : Hp} {s : Shared} {CX : CXT} {k j : Nat} {f : Addr} {F : LF} {ps fr : List Str} {sp : List (Option V) → Sp} {E : XK}
theorem lam_there {f : Addr} {F : LF} (I : Inv X pins σ H s) (e : H f = some (LamO f F)) : PySem.W.FnAt f s.heap := by
  obtain ⟨od, sl, pm, ctv, ho⟩ := lamO_at I.hok e
  exact ⟨_, od, _, sl, ho⟩
/-- its call, from a running body -/
theorem run_lam {Q : VK} {us : List Value} {vs : List V} {ws : List (Option V)} (Fn : LOk X.prog X.w X.K X.mg X.base CX k f F ps fr sp) (hr : Room j X.A) (hk : k ≤ j) (hx : Passes CX X E) (I : Inv X pins σ H s)
    (hf : H f = some (LamO f F)) (hc : H F.c = some (LamX.CodeO F.c F.qual)) (C : NdefX.CellsAt F.cl fr ws s.heap H) (r : Vals vs us) (q : sp ws vs H Q E) :
    wpAny (model X.prog X.w) X.A (call (.ref f) us) (EP X pins σ Q) X.xe s := by
  refine wpAny_call (codeAny_mono (Fn.run X.A X.stack s H us vs ws Q E (hr.mono hk) I.env0 hf hc C r q) fun r s' hq => ?_)
  cases r with
  | error e => exact hx pins σ H s e s' I hq
  | ok fl =>
    cases fl with
    | ret u => exact I.after hq
    | next => exact False.elim hq
    | brk => exact False.elim hq
    | cont => exact False.elim hq
/-- a cell of a running def is no frame -/
theorem cell_nofs (I : Inv X pins σ H s) {x : Str} {c : Addr} (hc : X.env.cells.lookup x = some c) (hf : X.fn x = true) : c ∉ frs X.stack := fun hb => by
  rcases List.mem_cons.mp (I.stkSub c hb) with e | e
  · exact I.cne x c hc e
  · obtain ⟨_, o, ho, _⟩ := I.ok.funs.mem e
    exact absurd (Nat.lt_of_lt_of_le (Heap.lt_size ho) (I.ok.cab x c hf hc)) (Nat.lt_irrefl _)
/-- f(..), f a local name that holds a lambda that came with the call, its cells as at the entry -/
theorem pe_callM {i : Nat} {x : Str} {e : Expr} {es : List Expr} {t : TA} {p pos : Pos} {ws : List (Option V)} (Fn : LOk X.prog X.w X.K X.mg X.base CX k f F ps fr sp) (hr : Room j X.A) (hk : k ≤ j) (hx : Passes CX X E) (C : NdefX.CellsAt F.cl fr ws X.s_0.heap X.H_0) (nf : ∀ y c, F.cl.lookup y = some c → c ∉ X.fs) (hex : X.ex = [])
    (hN : X.N[i]? = some x) (hv : Vis X.env.scope x) (ha : PA X (e :: es) t) (hd : (x == ("__debug__" : Str)) = false := by decide) (hcd : (x == ("__classdict__" : Str)) = false := by decide)
    (he : starEach (e :: es) X.env = (false, eval e X.env) :: starEach es X.env := by rfl) (hpl : (backTo pos (starEach es X.env)).any (·.1) = false := by rfl) :
    PE X (.Call (.Name x p) (e :: es) [] pos) (fun σ H Q => σ[i]? = some (some (.ref f)) ∧ H f = some (LamO f F) ∧ t σ H fun vs H1 => H1 f = some (LamO f F) ∧ H1 F.c = some (LamX.CodeO F.c F.qual) ∧ sp ws vs H1 Q E) := by
  refine ⟨fun pins s σ H Q I h => ?_⟩
  obtain ⟨hs, hf, ht⟩ := h
  refine wpAny_Call_Name_kw (thn ((pe_var (pos := p) hN hv hd hcd).run pins s σ H (fun v H1 => v = .ref f ∧ H1 = H) I ⟨.ref f, hs, rfl, rfl⟩) fun u s1 ⟨v, H1, I1, r1, q1⟩ => ?_)
  obtain ⟨ev, eH⟩ := q1
  subst ev
  rw [eH] at I1
  obtain rfl : u = Value.ref f := r1
  refine PySem.W.callWith_F (first := []) (lam_there I1 hf) (thn (ha.run pos pins s1 σ H _ I1 ht) fun us s2 ⟨vs, H2, I2, r, h1, h2, q⟩ => ⟨lam_there I2 h1, ?_⟩) he hpl
  show wpAny _ _ (call (.ref f) us) _ _ _
  refine run_lam Fn hr hk hx I2 h1 h2 ?_ r q
  exact C.later nf (fun y c e => by rw [hex]; simp) I2
end
end K3

/-! defs whose promise speaks of what runs around and of the very state -/
namespace K3
open PySem PySem.Spec PyProof.Rows L2
abbrev SpA := Around → List Env → Shared → List V → Hp → VK → Prop
section
variable {P : Program} {w : World} {K : PySem.W.Frag} {mg : Str → Option Value} {base : Heap} {k j : Nat} {f : Addr} {fd : FuncData} {N ps : List Str} {sp : SpA}
structure FnA (P : Program) (w : World) (K : PySem.W.Frag) (mg : Str → Option Value) (base : Heap) (k : Nat) (f : Addr) (fd : FuncData) (ps : List Str) (sp : SpA) : Prop where
  len : ∀ A outer s vs H Q, sp A outer s vs H Q → vs.length = ps.length
  run : ∀ (A : Around) (outer : List Env) (s : Shared) (H : Hp) (args : Args) (us : List Value) (vs : List V) (Q : VK), Room k A → Env0 P w K mg base A outer s H → BindsTo s fd args (ps.zip us) → Vals vs us → sp A outer s vs H Q →
    codeAny (model P w) A (.call (.ref f) args) (CR CX0 outer P w H s Q E0) s
/-- a def of no defaults, told by the head, as Words.lean's record -/
theorem fun_of {x qual : Str} {st : Stmt} (F : FunD K x qual (defArgs st) (defBody st) (defScope st) [] [] f fd) : Fun K x qual st f fd := by
  obtain ⟨oc, od, dV, kV, doc, pm, an, cdv, ct, osl, rfl, lk, hcd, hd, _⟩ := F.ex
  rcases hd with ⟨_, rfl⟩ | ⟨z, _⟩
  · exact ⟨⟨oc, od, kV, doc, pm, an, cdv, ct, osl, rfl, lk, hcd⟩, F.kp⟩
  · exact (z rfl).elim
theorem okA {x qual : Str} {st : Stmt} (F : Fun K x qual st f fd) (S : FnScope N ps (defScope st)) (len : ∀ A outer s vs H Q, sp A outer s vs H Q → vs.length = ps.length)
    (hbody : ∀ (cdv : Value) (A : Around) (outer : List Env) (s : Shared) (H : Hp) (vs : List V) (Q : VK), Room k (A.deeper (envOfC qual (defScope st) s.heap.objs.size f cdv)) → sp A outer s vs H Q →
      ∃ t, PSs (cxOf CX0 P w K mg base N qual (defScope st) f cdv A outer s H E0).nox (defBody st) t ∧ t { nx := fun _ H' => Q .non H', rt := Q } (start N vs) H) : FnA P w K mg base (k + 1) f fd ps sp := by
  obtain ⟨oc, od, kV, doc, pm, an, cdv, ct, osl, rfl, lk, hcd⟩ := F.ex
  refine ⟨len, fun A outer s H args us vs Q hr e0 hb r hsp => ?_⟩
  refine LamX.run_ofS lk hcd S hr e0 hb r (len _ _ _ _ _ _ hsp) fun hr' => ?_
  obtain ⟨t, h, q⟩ := hbody cdv A outer s H vs Q hr' hsp
  exact ⟨t, h.nox, q⟩
theorem FnA.of {sp0 : Sp} (F : FnOk P w K mg base CX0 k f fd ps sp0) : FnA P w K mg base k f fd ps (fun _ _ _ vs H Q => sp0 vs H Q E0) :=
  ⟨fun _ _ _ vs H Q h => F.len vs H Q E0 h, fun A outer s H args us vs Q hr he hb r h => F.run A outer s H args us vs Q E0 hr he hb r h⟩
end
section
variable {X : Cx} {k : Nat} {f : Addr} {fd : FuncData} {ps : List Str} {sp : SpA} {sp' : L2.St → List V → Hp → VK → Prop} {x : Str} {p pos : Pos} {e : Expr} {es : List Expr} {t : TA}
/-- f(..): the promise is told of the state at the call -/
theorem pe_callA (F : FnA X.prog X.w X.K X.mg X.base k f fd ps sp) (hr : Room k X.A) (hg : Gl X x) (hm : X.mg x = some (.ref f)) (hk : PySem.W.keepIn X.K (.ref f) = true) (hb : Binds X.K fd ps [])
    (hsp : ∀ (pins : List (Addr × Obj)) (σ : L2.St) (s : Shared) (vs : List V) (H : Hp) (Q : VK), Inv X pins σ H s → sp' σ vs H Q → sp X.A X.stack s vs H Q)
    (ha : PA X (e :: es) t) (hdb : (x == ("__debug__" : Str)) = false := by decide) (he : starEach (e :: es) X.env = (false, eval e X.env) :: starEach es X.env := by rfl) (hpl : (backTo pos (starEach es X.env)).any (·.1) = false := by rfl) :
    PE X (.Call (.Name x p) (e :: es) [] pos) (fun σ H Q => t σ H fun vs H1 => sp' σ vs H1 Q) := by
  refine ⟨fun pins s σ H Q I h => ?_⟩
  refine wpAny_Call_Name_kw (ld_glob I hg hm ?_ hdb)
  refine PySem.W.callWith_K (h₀ := X.base) I.ok.mod.kin hk (thn (ha.run pos pins s σ H _ I h) fun us s1 ⟨vs, H1, I1, r, q⟩ => ⟨I1.kIn, ?_⟩) he hpl
  have q1 := hsp pins σ s1 vs H1 Q I1 q
  have hl : (us ++ []).length = ps.length := by
    rw [List.append_nil, ← r.length]
    exact F.len _ _ _ _ _ _ q1
  have hb1 := hb s1 us I1.kIn hl
  rw [List.append_nil] at hb1
  refine wpAny_call (codeAny_mono (F.run X.A X.stack s1 H1 ⟨us, []⟩ us vs Q hr I1.env0 hb1 r q1) fun r' s' hq => ?_)
  cases r' with
  | error e => exact False.elim hq
  | ok fl =>
    cases fl with
    | ret u => exact I1.after hq
    | next => exact False.elim hq
    | brk => exact False.elim hq
    | cont => exact False.elim hq
end
/-! ### repr of data -/
def rRepr (K : PySem.W.Frag) : List V → Hp → VK → Prop := fun vs H Q => ∃ (a : Addr) (d : PyData), vs = [.ref a] ∧ Dp K H (.ref a) d ∧ d.showable = true ∧ d.canLay0 = true ∧ d.depth ≤ 60 ∧ d.shown.length ≤ sizeLine ∧ Q (.str d.shown) H
theorem call_repr {X : Cx} (hg : X.A.guards = some []) (hu : X.A.units + 64 < cLine) : CallR X (.builtin "repr") (rRepr X.K) := by
  intro pins s σ H xs us Q I r h
  obtain ⟨a, d, rfl, hd, h1, h2, h3, h4, q⟩ := h
  rw [Vals.ref1 r]
  obtain ⟨as, hr⟩ := Dp.reads I d (.ref a) (.ref a) hd rfl
  exact repr_of_reads' hr h1 (PyData.noDict_hsm (PyData.hasDict_of_canLay d h2)) hg (by omega) (fun _ _ e => e) (fun h' u tk hk => ⟨.str d.shown, H, I.kept hk, ⟨u, rfl⟩, q⟩) h4
end K3

namespace K3
open PySem PySem.Spec PyProof.Rows L2
/-! ### the text by places -/
def topS (i : Nat) : Stmt := PySem.Challenge.pw_packsworn_k03_whole_ranges_put_together.main.body.getD i (.Pass ⟨0, 0, 0, 0⟩)
abbrev s_is_integer : Stmt := topS 7
abbrev s_is_version : Stmt := topS 8
abbrev s_show_version : Stmt := topS 9
abbrev s_number_in : Stmt := topS 10
abbrev s_version_in : Stmt := topS 11
abbrev s_raised : Stmt := topS 12
abbrev s_after : Stmt := topS 13
abbrev s_is_above : Stmt := topS 16
abbrev s_is_stretch : Stmt := topS 17
abbrev s_is_range : Stmt := topS 18
abbrev s_none_of : Stmt := topS 19
abbrev s_all_of : Stmt := topS 20
abbrev s_stretch : Stmt := topS 21
abbrev s_just : Stmt := topS 22
abbrev s_union : Stmt := topS 23
abbrev s_rest : Stmt := topS 24
abbrev s_meet : Stmt := topS 25
abbrev s_without : Stmt := topS 26
abbrev s_is_within : Stmt := topS 27
abbrev s_least_in : Stmt := topS 28
abbrev s_parting_version : Stmt := topS 29
abbrev s_words_of : Stmt := topS 32
abbrev s_word_at : Stmt := topS 33
abbrev s_led_range : Stmt := topS 34
abbrev s_read_atom : Stmt := topS 35
abbrev s_read_term : Stmt := topS 36
abbrev s_read_meets : Stmt := topS 37
abbrev s_read_joined : Stmt := topS 38
abbrev s_range_in : Stmt := topS 39
abbrev s_read_range : Stmt := topS 40
abbrev s_show_stretch : Stmt := topS 41
abbrev s_show_range : Stmt := topS 42
abbrev s_l_bag : Stmt := topS 44
abbrev s_l_take : Stmt := topS 45
abbrev s_l_one : Stmt := topS 46
abbrev s_l_versions : Stmt := topS 47
abbrev s_l_version : Stmt := topS 48
abbrev s_l_far_versions : Stmt := topS 49
abbrev s_l_behind_version : Stmt := topS 50
abbrev s_l_near_points : Stmt := topS 51
abbrev s_l_range_by : Stmt := topS 52
abbrev s_l_any_range : Stmt := topS 53
abbrev s_l_points : Stmt := topS 54
abbrev s_l_is_in : Stmt := topS 55
abbrev s_l_deed : Stmt := topS 56
abbrev s_l_alike : Stmt := topS 57
abbrev s_l_said : Stmt := topS 58
abbrev s_l_show_range : Stmt := topS 59
abbrev s_l_are_parted : Stmt := topS 60
abbrev s_law : Stmt := topS 61
def d_is_integer : He.DefD := ⟨("is_integer", none), "is_integer", "is_integer", defArgs s_is_integer, defBody s_is_integer, defScope s_is_integer, [], []⟩
def d_is_version : He.DefD := ⟨("is_version", none), "is_version", "is_version", defArgs s_is_version, defBody s_is_version, defScope s_is_version, [], []⟩
def d_show_version : He.DefD := ⟨("show_version", none), "show_version", "show_version", defArgs s_show_version, defBody s_show_version, defScope s_show_version, [], []⟩
def d_number_in : He.DefD := ⟨("number_in", none), "number_in", "number_in", defArgs s_number_in, defBody s_number_in, defScope s_number_in, [], []⟩
def d_version_in : He.DefD := ⟨("version_in", none), "version_in", "version_in", defArgs s_version_in, defBody s_version_in, defScope s_version_in, [], []⟩
def d_raised : He.DefD := ⟨("raised", none), "raised", "raised", defArgs s_raised, defBody s_raised, defScope s_raised, [], []⟩
def d_after : He.DefD := ⟨("after", none), "after", "after", defArgs s_after, defBody s_after, defScope s_after, [], []⟩
def d_is_above : He.DefD := ⟨("is_above", none), "is_above", "is_above", defArgs s_is_above, defBody s_is_above, defScope s_is_above, [], []⟩
def d_is_stretch : He.DefD := ⟨("is_stretch", none), "is_stretch", "is_stretch", defArgs s_is_stretch, defBody s_is_stretch, defScope s_is_stretch, [], []⟩
def d_is_range : He.DefD := ⟨("is_range", none), "is_range", "is_range", defArgs s_is_range, defBody s_is_range, defScope s_is_range, [], []⟩
def d_none_of : He.DefD := ⟨("none_of", none), "none_of", "none_of", defArgs s_none_of, defBody s_none_of, defScope s_none_of, [], []⟩
def d_all_of : He.DefD := ⟨("all_of", none), "all_of", "all_of", defArgs s_all_of, defBody s_all_of, defScope s_all_of, [], []⟩
def d_stretch : He.DefD := ⟨("stretch", none), "stretch", "stretch", defArgs s_stretch, defBody s_stretch, defScope s_stretch, [], []⟩
def d_just : He.DefD := ⟨("just", none), "just", "just", defArgs s_just, defBody s_just, defScope s_just, [], []⟩
def d_union : He.DefD := ⟨("union", none), "union", "union", defArgs s_union, defBody s_union, defScope s_union, [], []⟩
def d_rest : He.DefD := ⟨("rest", none), "rest", "rest", defArgs s_rest, defBody s_rest, defScope s_rest, [], []⟩
def d_meet : He.DefD := ⟨("meet", none), "meet", "meet", defArgs s_meet, defBody s_meet, defScope s_meet, [], []⟩
def d_without : He.DefD := ⟨("without", none), "without", "without", defArgs s_without, defBody s_without, defScope s_without, [], []⟩
def d_is_within : He.DefD := ⟨("is_within", none), "is_within", "is_within", defArgs s_is_within, defBody s_is_within, defScope s_is_within, [], []⟩
def d_least_in : He.DefD := ⟨("least_in", none), "least_in", "least_in", defArgs s_least_in, defBody s_least_in, defScope s_least_in, [], []⟩
def d_parting_version : He.DefD := ⟨("parting_version", none), "parting_version", "parting_version", defArgs s_parting_version, defBody s_parting_version, defScope s_parting_version, [], []⟩
def d_words_of : He.DefD := ⟨("words_of", none), "words_of", "words_of", defArgs s_words_of, defBody s_words_of, defScope s_words_of, [], []⟩
def d_word_at : He.DefD := ⟨("word_at", none), "word_at", "word_at", defArgs s_word_at, defBody s_word_at, defScope s_word_at, [], []⟩
def d_led_range : He.DefD := ⟨("led_range", none), "led_range", "led_range", defArgs s_led_range, defBody s_led_range, defScope s_led_range, [], []⟩
def d_read_atom : He.DefD := ⟨("read_atom", none), "read_atom", "read_atom", defArgs s_read_atom, defBody s_read_atom, defScope s_read_atom, [], []⟩
def d_read_term : He.DefD := ⟨("read_term", none), "read_term", "read_term", defArgs s_read_term, defBody s_read_term, defScope s_read_term, [], []⟩
def d_read_meets : He.DefD := ⟨("read_meets", none), "read_meets", "read_meets", defArgs s_read_meets, defBody s_read_meets, defScope s_read_meets, [], []⟩
def d_read_joined : He.DefD := ⟨("read_joined", none), "read_joined", "read_joined", defArgs s_read_joined, defBody s_read_joined, defScope s_read_joined, [], []⟩
def d_range_in : He.DefD := ⟨("range_in", none), "range_in", "range_in", defArgs s_range_in, defBody s_range_in, defScope s_range_in, [], []⟩
def d_read_range : He.DefD := ⟨("read_range", none), "read_range", "read_range", defArgs s_read_range, defBody s_read_range, defScope s_read_range, [], []⟩
def d_show_stretch : He.DefD := ⟨("show_stretch", none), "show_stretch", "show_stretch", defArgs s_show_stretch, defBody s_show_stretch, defScope s_show_stretch, [], []⟩
def d_show_range : He.DefD := ⟨("show_range", none), "show_range", "show_range", defArgs s_show_range, defBody s_show_range, defScope s_show_range, [], []⟩
def d_l_bag : He.DefD := ⟨("_law_bag", none), "_law_bag", "_law_bag", defArgs s_l_bag, defBody s_l_bag, defScope s_l_bag, [], []⟩
def d_l_take : He.DefD := ⟨("_law_take", none), "_law_take", "_law_take", defArgs s_l_take, defBody s_l_take, defScope s_l_take, [], []⟩
def d_l_one : He.DefD := ⟨("_law_one", none), "_law_one", "_law_one", defArgs s_l_one, defBody s_l_one, defScope s_l_one, [], []⟩
def d_l_versions : He.DefD := ⟨("_law_versions", none), "_law_versions", "_law_versions", defArgs s_l_versions, defBody s_l_versions, defScope s_l_versions, [], []⟩
def d_l_version : He.DefD := ⟨("_law_version", none), "_law_version", "_law_version", defArgs s_l_version, defBody s_l_version, defScope s_l_version, [], []⟩
def d_l_far_versions : He.DefD := ⟨("_law_far_versions", none), "_law_far_versions", "_law_far_versions", defArgs s_l_far_versions, defBody s_l_far_versions, defScope s_l_far_versions, [], []⟩
def d_l_behind_version : He.DefD := ⟨("_law_behind_version", none), "_law_behind_version", "_law_behind_version", defArgs s_l_behind_version, defBody s_l_behind_version, defScope s_l_behind_version, [], []⟩
def d_l_near_points : He.DefD := ⟨("_law_near_points", none), "_law_near_points", "_law_near_points", defArgs s_l_near_points, defBody s_l_near_points, defScope s_l_near_points, [], []⟩
def d_l_range_by : He.DefD := ⟨("_law_range_by", none), "_law_range_by", "_law_range_by", defArgs s_l_range_by, defBody s_l_range_by, defScope s_l_range_by, [], []⟩
def d_l_any_range : He.DefD := ⟨("_law_any_range", none), "_law_any_range", "_law_any_range", defArgs s_l_any_range, defBody s_l_any_range, defScope s_l_any_range, [], []⟩
def d_l_points : He.DefD := ⟨("_law_points", none), "_law_points", "_law_points", defArgs s_l_points, defBody s_l_points, defScope s_l_points, [], []⟩
def d_l_is_in : He.DefD := ⟨("_law_is_in", none), "_law_is_in", "_law_is_in", defArgs s_l_is_in, defBody s_l_is_in, defScope s_l_is_in, [], []⟩
def d_l_deed : He.DefD := ⟨("_law_deed", none), "_law_deed", "_law_deed", defArgs s_l_deed, defBody s_l_deed, defScope s_l_deed, [], []⟩
def d_l_alike : He.DefD := ⟨("_law_alike", none), "_law_alike", "_law_alike", defArgs s_l_alike, defBody s_l_alike, defScope s_l_alike, [], []⟩
def d_l_said : He.DefD := ⟨("_law_said", none), "_law_said", "_law_said", defArgs s_l_said, defBody s_l_said, defScope s_l_said, [], []⟩
def d_l_show_range : He.DefD := ⟨("_law_show_range", none), "_law_show_range", "_law_show_range", defArgs s_l_show_range, defBody s_l_show_range, defScope s_l_show_range, [], []⟩
def d_l_are_parted : He.DefD := ⟨("_law_are_parted", none), "_law_are_parted", "_law_are_parted", defArgs s_l_are_parted, defBody s_l_are_parted, defScope s_l_are_parted, [], []⟩
def d_law : He.DefD := ⟨("law", none), "law", "law", defArgs s_law, defBody s_law, defScope s_law, [], []⟩
def fnL : List He.DefD := [d_is_integer, d_is_version, d_show_version, d_number_in, d_version_in, d_raised, d_after, d_is_above, d_is_stretch, d_is_range, d_none_of, d_all_of, d_stretch, d_just, d_union, d_rest, d_meet, d_without, d_is_within, d_least_in, d_parting_version, d_words_of, d_word_at, d_led_range, d_read_atom, d_read_term, d_read_meets, d_read_joined, d_range_in, d_read_range, d_show_stretch, d_show_range, d_l_bag, d_l_take, d_l_one, d_l_versions, d_l_version, d_l_far_versions, d_l_behind_version, d_l_near_points, d_l_range_by, d_l_any_range, d_l_points, d_l_is_in, d_l_deed, d_l_alike, d_l_said, d_l_show_range, d_l_are_parted, d_law]
def faL : List He.Fa := [.glo "is_integer", .glo "is_version", .glo "show_version", .glo "number_in", .glo "version_in", .glo "raised", .glo "after", .glo "is_above", .glo "is_stretch", .glo "is_range", .glo "none_of", .glo "all_of", .glo "stretch", .glo "just", .glo "union", .glo "rest", .glo "meet", .glo "without", .glo "is_within", .glo "least_in", .glo "parting_version", .glo "words_of", .glo "word_at", .glo "led_range", .glo "read_atom", .glo "read_term", .glo "read_meets", .glo "read_joined", .glo "range_in", .glo "read_range", .glo "show_stretch", .glo "show_range", .glo "_law_bag", .glo "_law_take", .glo "_law_one", .glo "_law_versions", .glo "_law_version", .glo "_law_far_versions", .glo "_law_behind_version", .glo "_law_near_points", .glo "_law_range_by", .glo "_law_any_range", .glo "_law_points", .glo "_law_is_in", .glo "_law_deed", .glo "_law_alike", .glo "_law_said", .glo "_law_show_range", .glo "_law_are_parted", .glo "law", .glo "LEAST", .int "MOST" 999999, .int "MOST_OPEN" 30, .str "DIGITS" "0123456789", .free "isinstance", .free "int", .free "bool", .free "tuple", .free "len", .free "all", .free "str", .free "sorted", .free "zip", .free "abs", .free "range", .free "set", .free "list", .free "enumerate", .free "dict", .free "repr"]
def looseA : List PySem.Str := ["PackError", "Wrong", "NoRange", "MOST", "DIGITS", "is_integer", "is_version", "show_version", "number_in", "version_in", "raised", "after", "LEAST", "is_above", "is_stretch", "is_range", "none_of", "all_of", "stretch", "just", "union", "rest", "meet", "without", "is_within", "least_in", "parting_version", "MOST_OPEN", "words_of", "word_at"]
def looseB : List PySem.Str := ["led_range", "read_atom", "read_term", "read_meets", "read_joined", "range_in", "read_range", "show_stretch", "show_range", "_law_bag", "_law_take", "_law_one", "_law_versions", "_law_version", "_law_far_versions", "_law_behind_version", "_law_near_points", "_law_range_by", "_law_any_range", "_law_points", "_law_is_in", "_law_deed", "_law_alike", "_law_said", "_law_show_range", "_law_are_parted"]
def looseL : List PySem.Str := looseA ++ looseB
def tfL : List He.Defn := [("union", none), ("_law_any_range", none), ("law", none)]
def exL (K : PySem.W.Frag) : Bool := He.tupB K "LEAST" [.int 0, .int 0, .int 0]
abbrev RR : PySem.W.OpenRow := PySem.W.OpenLaw.row PySem.Challenge.rw_packsworn_k03_whole_ranges_put_together
end K3

/-! what stands at the program's top; the defs' calls -/
namespace K3
open PySem PySem.Spec PyProof.Rows L2
def blts : List Str := ["isinstance", "int", "bool", "tuple", "len", "all", "str", "sorted", "zip", "abs", "range", "set", "list", "enumerate", "dict", "repr"]
structure Glo (K : PySem.W.Frag) (mg : Str → Option Value) : Prop where
  free : ∀ x, blts.contains x = true → mg x = none
  most : ∃ t, mg "MOST" = some (.int 999999 t)
  mopen : ∃ t, mg "MOST_OPEN" = some (.int 30 t)
  dig : ∃ t, mg "DIGITS" = some (.str "0123456789" t)
  least : ∃ a, mg "LEAST" = some (.ref a) ∧ ∀ H, SqT K H a [.int 0, .int 0, .int 0]
/-- a def of the top, its promise -/
structure DefF (P : Program) (w : World) (K : PySem.W.Frag) (mg : Str → Option Value) (base : Heap) (k : Nat) (x : Str) (ps : List Str) (sp : Sp) : Prop where
  ex : ∃ f fd, FnOk P w K mg base CX0 k f fd ps sp ∧ mg x = some (.ref f) ∧ PySem.W.keepIn K (.ref f) = true ∧ Binds K fd ps []
structure DefA (P : Program) (w : World) (K : PySem.W.Frag) (mg : Str → Option Value) (base : Heap) (k : Nat) (x : Str) (ps : List Str) (sp : SpA) : Prop where
  ex : ∃ f fd, FnA P w K mg base k f fd ps sp ∧ mg x = some (.ref f) ∧ PySem.W.keepIn K (.ref f) = true ∧ Binds K fd ps []
/-- where a def stands -/
structure Top (K : PySem.W.Frag) (mg : Str → Option Value) (x : Str) (st : Stmt) : Prop where
  ex : ∃ f fd, Fun K x x st f fd ∧ mg x = some (.ref f)
section
variable {P : Program} {w : World} {K : PySem.W.Frag} {mg : Str → Option Value} {base : Heap} {k : Nat} {x : Str} {st : Stmt} {N ps : List Str} {sp : Sp}
theorem def_of (D : Top K mg x st) (S : FnScope N ps (defScope st)) (hb : ∀ (kV doc pm : Value) (an : Option Addr) (cdv ct : Value) (us : List Value), us.length = ps.length → bindArgs (PySem.W.fnOf x x (defArgs st) (defBody st) (defScope st) .none kV doc pm an cdv ct) ⟨us, []⟩ = pure (ps.zip us))
    (len : ∀ vs H Q E, sp vs H Q E → vs.length = ps.length)
    (hbody : ∀ (f : Addr) (cdv : Value) (A : Around) (outer : List Env) (s : Shared) (H : Hp) (vs : List V) (Q : VK) (E : XK), Room k (A.deeper (envOfC x (defScope st) s.heap.objs.size f cdv)) → sp vs H Q E →
      ∃ t, PSs (cxOf CX0 P w K mg base N x (defScope st) f cdv A outer s H E).nox (defBody st) t ∧ t { nx := fun _ H' => Q .non H', rt := Q } (start N vs) H) : DefF P w K mg base (k + 1) x ps sp := by
  obtain ⟨f, fd, F, hm⟩ := D.ex
  exact ⟨f, fd, F.ok S len (hbody f), hm, F.kp, F.binds hb⟩
theorem defA_of {sp : SpA} (D : Top K mg x st) (S : FnScope N ps (defScope st)) (hb : ∀ (kV doc pm : Value) (an : Option Addr) (cdv ct : Value) (us : List Value), us.length = ps.length → bindArgs (PySem.W.fnOf x x (defArgs st) (defBody st) (defScope st) .none kV doc pm an cdv ct) ⟨us, []⟩ = pure (ps.zip us))
    (len : ∀ A outer s vs H Q, sp A outer s vs H Q → vs.length = ps.length)
    (hbody : ∀ (f : Addr) (cdv : Value) (A : Around) (outer : List Env) (s : Shared) (H : Hp) (vs : List V) (Q : VK), Room k (A.deeper (envOfC x (defScope st) s.heap.objs.size f cdv)) → sp A outer s vs H Q →
      ∃ t, PSs (cxOf CX0 P w K mg base N x (defScope st) f cdv A outer s H E0).nox (defBody st) t ∧ t { nx := fun _ H' => Q .non H', rt := Q } (start N vs) H) : DefA P w K mg base (k + 1) x ps sp := by
  obtain ⟨f, fd, F, hm⟩ := D.ex
  exact ⟨f, fd, okA F S len (hbody f), hm, F.kp, F.binds hb⟩
end
section
variable {X : Cx} {k : Nat} {x : Str} {ps : List Str} {sp : Sp} {e : Expr} {es : List Expr} {t : TA} {p pos : Pos}
theorem pe_D (D : DefF X.prog X.w X.K X.mg X.base k x ps sp) (hr : Room k X.A) (hg : Gl X x) (ha : PA X (e :: es) t) (hdb : (x == ("__debug__" : Str)) = false := by decide)
    (he : starEach (e :: es) X.env = (false, eval e X.env) :: starEach es X.env := by rfl) (hpl : (backTo pos (starEach es X.env)).any (·.1) = false := by rfl) : PE X (.Call (.Name x p) (e :: es) [] pos) (tCall sp [] E0 t) := by
  obtain ⟨f, fd, F, hm, hk, hb⟩ := D.ex
  exact pe_call F hr hg hm hk hb .nil pass0 ha hdb he hpl
theorem pe_D0 (D : DefF X.prog X.w X.K X.mg X.base k x ps sp) (hr : Room k X.A) (hg : Gl X x) (hdb : (x == ("__debug__" : Str)) = false := by decide) : PE X (.Call (.Name x p) [] [] pos) (tCall sp [] E0 tNil) := by
  obtain ⟨f, fd, F, hm, hk, hb⟩ := D.ex
  exact pe_call0 F hr hg hm hk hb .nil pass0 hdb
theorem pe_DA {sp : SpA} {sp' : L2.St → List V → Hp → VK → Prop} (D : DefA X.prog X.w X.K X.mg X.base k x ps sp) (hr : Room k X.A) (hg : Gl X x)
    (hsp : ∀ (pins : List (Addr × Obj)) (σ : L2.St) (s : Shared) (vs : List V) (H : Hp) (Q : VK), Inv X pins σ H s → sp' σ vs H Q → sp X.A X.stack s vs H Q)
    (ha : PA X (e :: es) t) (hdb : (x == ("__debug__" : Str)) = false := by decide) (he : starEach (e :: es) X.env = (false, eval e X.env) :: starEach es X.env := by rfl) (hpl : (backTo pos (starEach es X.env)).any (·.1) = false := by rfl) :
    PE X (.Call (.Name x p) (e :: es) [] pos) (fun σ H Q => t σ H fun vs H1 => sp' σ vs H1 Q) := by
  obtain ⟨f, fd, F, hm, hk, hb⟩ := D.ex
  exact pe_callA F hr hg hm hk hb hsp ha hdb he hpl
end
section
variable {K : PySem.W.Frag} {H : Hp} {a : Addr} {xs : List V}
theorem tyx_tup (h : SqT K H a xs) : TyX K H (.ref a) (.type "tuple") := by
  rcases h with (h | ⟨o, h⟩) | ⟨o, its, n, h1, h2, _⟩
  · exact .base (.tup h)
  · exact .fTuple h
  · exact .kTuple h1 h2
end
theorem dec_case {b : Bool} (c d : Prop) (h1 : b = true → c) (h2 : b = false → d) : if b = true then c else d := by
  cases b
  · exact h2 rfl
  · exact h1 rfl
end K3

/-! loops and comprehensions over things that stay -/
namespace K3
open PySem PySem.Spec PyProof.Rows L2
/-- what is asked of a comprehension, of a loop, once its iterator stands -/
def LcW (J : It) (g : TG) (tt : TT) (te : TE) (vs : List Nat) (Q : VK) (σ : L2.St) (H1 : Hp) : Prop := ∀ D, H1 D = none → ∃ W : Nat → Nat → Hp → Prop, (∃ m, W 0 m (upd H1 D (.lst []))) ∧
  ∀ i m H, W i m H → (J.stop i H ∧ Q (.ref D) H) ∨ (J.go i H ∧ ∃ Nx : Hp → Prop, (∀ H', Nx H' → ∃ m', m' < m ∧ W (i + 1) m' H') ∧
    ∀ x H', J.yld i H x H' → g x (wipe σ vs) H' fun σ2 H2 => wipe σ2 vs = wipe σ vs ∧ tt σ2 H2 fun b H3 => if b = true then te σ2 H3 fun y H4 => ∃ acc, H4 D = some (.lst acc) ∧ acc.length < sizeLine ∧ Nx (upd H4 D (.lst (acc ++ [y]))) else Nx H3)
def ForW (J : It) (g : TG) (tb : TS) (D : Ends) (σ : L2.St) (H1 : Hp) : Prop := ∃ W : Nat → Nat → L2.St → Hp → Prop, (∃ m, W 0 m σ H1) ∧
  ∀ i m σ H, W i m σ H → (J.stop i H ∧ D.nx σ H) ∨ (J.go i H ∧ ∃ N : L2.St → Hp → Prop, (∀ σ' H', N σ' H' → ∃ m', m' < m ∧ W (i + 1) m' σ' H') ∧
    ∀ x H', J.yld i H x H' → g x σ H' fun σ2 H2 => tb { D with nx := N, ct := N, bk := D.nx } σ2 H2)
def tLcW (wi : TI) (g : TG) (tt : TT) (te : TE) (vs : List Nat) : TE := fun σ H Q => wi σ H fun J H1 => LcW J g tt te vs Q σ H1
def tForW (wi : TI) (g : TG) (tb : TS) : TS := fun D σ H => wi σ H fun J H1 => ForW J g tb D σ H1
section
variable {X : Cx}
theorem pe_lcW {elt tg iter : Expr} {ifs : List Expr} {scope : Scope} {own : List (Str × Nat)} {pos : Pos} {wi : TI} {g : TG} {tt : TT} {te : TE} (hN : X.N.Nodup) (ok : BlkOk X.N X.env.scope scope own) (hi : PI X tg iter wi)
    (hg : ∀ (s : Shared) (H : Hp) (C : Addr) (cl : List (Str × Addr)) (fp : List Addr), PG (X.blk s H scope (compEnvC scope cl C X.env) fp) tg g) (ht : ∀ (s : Shared) (H : Hp) (C : Addr) (cl : List (Str × Addr)) (fp : List Addr), PTs (X.blk s H scope (compEnvC scope cl C X.env) fp) ifs tt)
    (he : ∀ (s : Shared) (H : Hp) (C : Addr) (cl : List (Str × Addr)) (fp : List Addr), PE (X.blk s H scope (compEnvC scope cl C X.env) fp) elt te) (hc : X.calm = true := by rfl) (hs : ∀ x, foldedSetIterable iter X.env x = pure x := by intro _; rfl) :
    PE X (.ListComp elt [⟨tg, iter, ifs, 0⟩] scope pos) (tLcW wi g tt te (own.map (·.2))) := pe_lc hc hN hi ok hg ht he hs
theorem ps_setLcW {i : Nat} {y : Str} {py : Pos} {elt tg iter : Expr} {ifs : List Expr} {scope : Scope} {own : List (Str × Nat)} {pos spos : Pos} {wi : TI} {g : TG} {tt : TT} {te : TE} (hN : X.N.Nodup) (hy : X.N[i]? = some y) (hyl : X.env.scope.names.lookup y = some .local)
    (ok : BlkOk X.N X.env.scope scope own) (hi : PI X tg iter wi)
    (hg : ∀ (s : Shared) (H : Hp) (C : Addr) (cl : List (Str × Addr)) (fp : List Addr), PG (X.blk s H scope (compEnvC scope cl C X.env) fp) tg g) (ht : ∀ (s : Shared) (H : Hp) (C : Addr) (cl : List (Str × Addr)) (fp : List Addr), PTs (X.blk s H scope (compEnvC scope cl C X.env) fp) ifs tt)
    (he : ∀ (s : Shared) (H : Hp) (C : Addr) (cl : List (Str × Addr)) (fp : List Addr), PE (X.blk s H scope (compEnvC scope cl C X.env) fp) elt te) (hc : X.calm = true := by rfl) (hs : ∀ x, foldedSetIterable iter X.env x = pure x := by intro _; rfl)
    (hk : X.env.scope.kind = .function := by rfl) (hl : (py.line == pos.line) = true := by rfl) (hsp : spos.line = spos.line := by rfl) (hz : (scope.names.any fun (n, k) => n == y && (k == .local || k == .cell)) = false := by rfl) :
    PS X (.Assign [.Name y py] (.ListComp elt [⟨tg, iter, ifs, 0⟩] scope pos) spos) (tAsg (tLcW wi g tt te (own.map (·.2))) (gName i)) := ps_setLc hc hN hy hyl (sw_true hk hyl hl hz) hi ok hg ht he hs
theorem ps_forW {tg iter : Expr} {body : List Stmt} {wi : TI} {g : TG} {tb : TS} {pos : Pos} (hp : PassesOwn (model X.prog X.w) X.A X.env X.xe) (hi : PI X tg iter wi) (hg : PG X tg g) (hb : PSs X body tb) (hc : X.calm = true := by rfl) (hs : ∀ x, foldedSetIterable iter X.env x = pure x := by intro _; rfl) :
    PS X (.For tg iter body [] pos) (tForW wi g tb) := ps_for hp hc hi hg hb hs
end
/-- what an iterator of n turns gives while C holds -/
structure Items (T : Tbl) (J : It) (n : Nat) (C : Hp → Prop) (item : Nat → V → Hp → Prop) : Prop where
  go : ∀ i H, C H → i < n → J.go i H
  stop : ∀ i H, C H → n ≤ i → J.stop i H
  yld : ∀ i x H H', C H → i < n → J.yld i H x H' → Go T [] H H' ∧ item i x H'
section
variable {T : Tbl} {M : List Addr} {K : PySem.W.Frag} {a b : Addr} {xs ys : List V}
theorem it_tup : Items T (Itt K a) xs.length (fun H => SqT K H a xs) (fun i x _ => xs[i]? = some x) := by
  refine ⟨fun i H c h => ⟨xs, xs[i], c, by simp [h]⟩, fun i H c h => ⟨xs, c, h⟩, fun i x H H' c h y => ?_⟩
  obtain ⟨rfl, y⟩ := y
  exact ⟨Go.refl, y xs c⟩
theorem it_lst : Items T (Itl K a) xs.length (fun H => SqL K H a xs) (fun i x _ => xs[i]? = some x) := by
  refine ⟨fun i H c h => ⟨xs, xs[i], c, by simp [h]⟩, fun i H c h => ⟨xs, c, h⟩, fun i x H H' c h y => ?_⟩
  obtain ⟨rfl, y⟩ := y
  exact ⟨Go.refl, y xs c⟩
theorem it_rng {lo : Int} {n : Nat} : Items T (Itr lo n) n (fun _ => True) (fun i x _ => x = .int (lo + (i : Nat))) :=
  ⟨fun i H _ h => h, fun i H _ h => h, fun i x H H' _ h y => ⟨by rw [y.1]; exact Go.refl, y.2⟩⟩
theorem it_str {x : Str} : Items T (Its x) x.cps.size (fun _ => True) (fun i v _ => ∃ c, x.cps[i]? = some c ∧ v = .str ⟨#[c]⟩) :=
  ⟨fun i H _ h => h, fun i H _ h => h, fun i v H H' _ h y => ⟨by rw [y.1]; exact Go.refl, y.2⟩⟩
theorem it_enum : Items T (Ite K a) xs.length (fun H => SqL K H a xs) (fun i v H => ∃ q x, v = .ref q ∧ H q = some (.tup [.int (i : Nat), x]) ∧ xs[i]? = some x) := by
  refine ⟨fun i H c h => ⟨xs, xs[i], c, by simp [h]⟩, fun i H c h => ⟨xs, c, h⟩, fun i x H H' c h y => ?_⟩
  obtain ⟨q, z, rfl, hq, rfl, y⟩ := y
  exact ⟨Go.new hq, q, z, rfl, upd_same, y xs c⟩
theorem it_zipT : Items T (RZ.ItzT K a b) (min xs.length ys.length) (fun H => SqT K H a xs ∧ SqT K H b ys) (fun i v H => ∃ q x y, v = .ref q ∧ H q = some (.tup [x, y]) ∧ xs[i]? = some x ∧ ys[i]? = some y) := by
  refine ⟨fun i H c h => ⟨xs, ys, xs[i]'(by omega), ys[i]'(by omega), c.1, c.2, by simp [show i < xs.length by omega], by simp [show i < ys.length by omega]⟩, fun i H c h => ⟨xs, ys, c.1, c.2, by omega⟩, fun i x H H' c h y => ?_⟩
  obtain ⟨q, u, v, rfl, hq, rfl, y1, y2⟩ := y
  exact ⟨Go.new hq, q, u, v, rfl, upd_same, y1 xs c.1, y2 ys c.2⟩
theorem it_zipL : Items T (Itz K a b) (min xs.length ys.length) (fun H => SqL K H a xs ∧ SqL K H b ys) (fun i v H => ∃ q x y, v = .ref q ∧ H q = some (.tup [x, y]) ∧ xs[i]? = some x ∧ ys[i]? = some y) := by
  refine ⟨fun i H c h => ⟨xs, ys, xs[i]'(by omega), ys[i]'(by omega), c.1, c.2, by simp [show i < xs.length by omega], by simp [show i < ys.length by omega]⟩, fun i H c h => ⟨xs, ys, c.1, c.2, by omega⟩, fun i x H H' c h y => ?_⟩
  obtain ⟨q, u, v, rfl, hq, rfl, y1, y2⟩ := y
  exact ⟨Go.new hq, q, u, v, rfl, upd_same, y1 xs c.1, y2 ys c.2⟩
end
/-- no test: the item is taken -/
theorem lc_yes {σ : L2.St} {H : Hp} {A B : Hp → Prop} (h : A H) : tYes σ H fun b H3 => if b = true then A H3 else B H3 := by
  show if true = true then A H else B H
  rw [if_pos rfl]
  exact h
theorem range_snoc {n : Nat} {f : Nat → Bool} : (List.range (n + 1)).filter f = (List.range n).filter f ++ (if f n = true then [n] else []) := by
  rw [List.range_succ, List.filter_append]
  congr 1
  cases h : f n <;> simp [h]
theorem Paired.snoc {α β : Type} {R : α → β → Prop} {x : α} {y : β} (h : R x y) : ∀ {l : List α} {m : List β}, Paired R l m → Paired R (l ++ [x]) (m ++ [y])
  | _, _, .nil => .cons h .nil
  | _, _, .cons a r => .cons a (Paired.snoc h r)
theorem Paired.lenEq {α β : Type} {R : α → β → Prop} : ∀ {l : List α} {m : List β}, Paired R l m → m.length = l.length
  | _, _, .nil => rfl
  | _, _, .cons _ r => congrArg (· + 1) (Paired.lenEq r)
section
variable {T : Tbl} {M : List Addr} {J : It} {n : Nat} {C : Hp → Prop} {item : Nat → V → Hp → Prop} {σ : L2.St} {H1 : Hp}
/-- a comprehension: keep says which turns give an item, R what is true of it; ap y q: y lies apart from the list at q -/
theorem lc_go {g : TG} {tt : TT} {te : TE} {vs : List Nat} {Q : VK} (IT : Items T J n C item) (keep : Nat → Bool) (R : Nat → V → Hp → Prop) (ap : V → Addr → Prop) (hn : n < sizeLine) (hM : ∀ b ∈ M, H1 b ≠ none)
    (hC : ∀ q H', H1 q = none → Go T (q :: M) H1 H' → C H') (hR : ∀ i y q H' H'', ap y q → Go T (q :: M) H' H'' → R i y H' → R i y H'')
    (hs : ∀ i x H' (Kc : VK) (Kn : Hp → Prop), i < n → Go T M H1 H' → item i x H' → (∀ y H4, keep i = true → Go T M H' H4 → R i y H4 → (∀ q acc, H' q = some (.lst acc) → ap y q) → Kc y H4) → (∀ H3, keep i = false → Go T M H' H3 → Kn H3) →
      g x (wipe σ vs) H' fun σ2 H2 => wipe σ2 vs = wipe σ vs ∧ tt σ2 H2 fun b H3 => if b = true then te σ2 H3 Kc else Kn H3)
    (hd : ∀ q ys H', H1 q = none → Go T M H1 H' → H' q = some (.lst ys) → Paired (fun i y => R i y H') ((List.range n).filter keep) ys → Q (.ref q) H') :
    LcW J g tt te vs Q σ H1 := by
  intro D hD
  have hDM : D ∉ M := fun m => hM D m hD
  have cons : ∀ {H' H'' : Hp}, Go T M H' H'' → Go T (D :: M) H' H'' := fun g => g.mono fun b m => List.mem_cons_of_mem _ m
  let Pv : Nat → Hp → Prop := fun i H => Go T M H1 H ∧ ∃ acc, H D = some (.lst acc) ∧ Paired (fun i y => R i y H ∧ ap y D) ((List.range i).filter keep) acc
  have h0 : Pv 0 (upd H1 D (.lst [])) := ⟨(Go.new hD).any, [], upd_same, .nil⟩
  refine ⟨fun i m H => m = n - i ∧ i ≤ n ∧ Pv i H, ⟨n, by simp, Nat.zero_le _, h0⟩, ?_⟩
  rintro i m H ⟨rfl, hi, g1, acc, hacc, pr⟩
  have c := hC D H hD (cons g1)
  by_cases hlt : i < n
  · refine .inr ⟨IT.go i H c hlt, Pv (i + 1), fun H' p' => ⟨n - (i + 1), by omega, rfl, hlt, p'⟩, fun x H' y => ?_⟩
    obtain ⟨g2, it⟩ := IT.yld i x H H' c hlt y
    have pr2 : ∀ H'', Go T (D :: M) H' H'' → Paired (fun i y => R i y H'' ∧ ap y D) ((List.range i).filter keep) acc := fun H'' g3 => Paired.mapP pr fun j y r => ⟨hR j y D _ _ r.2 (g2.any.trans g3) r.1, r.2⟩
    refine hs i x H' _ _ hlt (g1.trans g2.any) it (fun y H4 hk g3 r ha => ?_) fun H3 hk g3 => ?_
    · have e4 : H4 D = some (.lst acc) := g3.lst (g2.lst hacc) hDM
      have ay : ap y D := ha D acc (g2.lst hacc)
      have g5 : Go T (D :: M) H4 (upd H4 D (.lst (acc ++ [y]))) := Go.wr (List.mem_cons_self ..) e4
      refine ⟨acc, e4, ?_, ((g1.trans g2.any).trans g3).mut hD e4, acc ++ [y], upd_same, ?_⟩
      · rw [Paired.lenEq pr]
        exact Nat.lt_of_le_of_lt (List.length_filter_le _ _) (by rw [List.length_range]; exact Nat.lt_trans hlt hn)
      · rw [range_snoc, if_pos hk]
        exact Paired.snoc ⟨hR i y D _ _ ay g5 r, ay⟩ (pr2 _ ((cons g3).trans g5))
    · have e3 : H3 D = some (.lst acc) := g3.lst (g2.lst hacc) hDM
      refine ⟨(g1.trans g2.any).trans g3, acc, e3, ?_⟩
      rw [range_snoc, if_neg (by simp [hk]), List.append_nil]
      exact pr2 H3 (cons g3)
  · have e : i = n := by omega
    subst e
    exact .inl ⟨IT.stop _ H c (Nat.le_refl _), hd D acc H hD g1 hacc (Paired.mapP pr fun _ _ r => r.1)⟩
/-- a for loop: Pv i, what holds before turn i -/
theorem for_go {g : TG} {tb : TS} {D : Ends} (IT : Items T J n C item) (Pv : Nat → L2.St → Hp → Prop) (h0 : Pv 0 σ H1) (hC : ∀ i σ H, i ≤ n → Pv i σ H → C H)
    (hs : ∀ i x σ H H', i < n → Pv i σ H → Go T [] H H' → item i x H' → g x σ H' fun σ2 H2 => tb { D with nx := Pv (i + 1), ct := Pv (i + 1), bk := D.nx } σ2 H2) (hd : ∀ σ H, Pv n σ H → D.nx σ H) :
    ForW J g tb D σ H1 := by
  refine ⟨fun i m σ H => m = n - i ∧ i ≤ n ∧ Pv i σ H, ⟨n, by simp, Nat.zero_le _, h0⟩, ?_⟩
  rintro i m σ H ⟨rfl, hi, p⟩
  have c := hC i σ H hi p
  by_cases hlt : i < n
  · refine .inr ⟨IT.go i H c hlt, Pv (i + 1), fun σ' H' p' => ⟨n - (i + 1), by omega, rfl, hlt, p'⟩, fun x H' y => ?_⟩
    obtain ⟨g2, it⟩ := IT.yld i x H H' c hlt y
    exact hs i x σ H H' hlt p g2 it
  · have e : i = n := by omega
    subst e
    exact .inl ⟨IT.stop _ H c (Nat.le_refl _), hd σ H p⟩
end
theorem keep_all {n : Nat} : (List.range n).filter (fun _ => true) = List.range n := by simp
theorem Paired.at {α β : Type} {R : α → β → Prop} : ∀ {l : List α} {m : List β} {i : Nat} {x : α}, Paired R l m → l[i]? = some x → ∃ y, m[i]? = some y ∧ R x y
  | _, _, _, _, .nil, h => by simp at h
  | _, _, 0, _, .cons a r, h => by
    simp at h
    exact ⟨_, rfl, h ▸ a⟩
  | _, _, i + 1, _, .cons a r, h => by
    obtain ⟨y, e, z⟩ := Paired.at (i := i) r (by simpa using h)
    exact ⟨y, by simpa using e, z⟩
theorem Paired.all {α β : Type} {R : α → β → Prop} : ∀ {l : List α} {m : List β}, Paired R l m → ∀ (i : Nat) (x : α) (y : β), l[i]? = some x → m[i]? = some y → R x y := fun {l m} h i x y a b => by
  obtain ⟨z, e, r⟩ := Paired.at h a
  rw [e] at b
  cases b
  exact r
/-- all turns gave an item that a function names -/
theorem Paired.isMap {α β : Type} {f : α → β} : ∀ {l : List α} {m : List β}, Paired (fun a b => b = f a) l m → m = l.map f
  | _, _, .nil => rfl
  | _, _, .cons a r => by rw [List.map_cons, ← a, ← Paired.isMap r]
theorem map_range {α : Type} {f : Nat → α} {l : List α} (h : ∀ (i : Nat) (x : α), l[i]? = some x → f i = x) : (List.range l.length).map f = l := by
  refine List.ext_getElem (by simp) fun i h1 h2 => ?_
  rw [List.getElem_map, List.getElem_range]
  exact h i _ (by simp [List.getElem?_eq_getElem h2])
end K3

/-! the defs' names by places -/
namespace K3
open PySem PySem.Spec PyProof.Rows L2
-- is_integer: 0=thing
abbrev n_is_integer : List Str := ["thing"]
theorem sc_is_integer : FnScope n_is_integer ["thing"] (defScope s_is_integer) := ⟨rfl, rfl, rfl, by decide +kernel, rfl, by decide +kernel, by decide +kernel⟩
theorem bd_is_integer (kV doc pm : Value) (an : Option Addr) (cdv ct : Value) (us : List Value) (h : us.length = 1) : bindArgs (PySem.W.fnOf "is_integer" "is_integer" (defArgs s_is_integer) (defBody s_is_integer) (defScope s_is_integer) .none kV doc pm an cdv ct) ⟨us, []⟩ = pure ((["thing"] : List Str).zip us) :=
  match us, h with | [_], _ => rfl
-- is_version: 0=thing 1=number
abbrev n_is_version : List Str := ["thing", "number"]
theorem sc_is_version : FnScope n_is_version ["thing"] (defScope s_is_version) := ⟨rfl, rfl, rfl, by decide +kernel, rfl, by decide +kernel, by decide +kernel⟩
theorem bd_is_version (kV doc pm : Value) (an : Option Addr) (cdv ct : Value) (us : List Value) (h : us.length = 1) : bindArgs (PySem.W.fnOf "is_version" "is_version" (defArgs s_is_version) (defBody s_is_version) (defScope s_is_version) .none kV doc pm an cdv ct) ⟨us, []⟩ = pure ((["thing"] : List Str).zip us) :=
  match us, h with | [_], _ => rfl
-- show_version: 0=version 1=number
abbrev n_show_version : List Str := ["version", "number"]
theorem sc_show_version : FnScope n_show_version ["version"] (defScope s_show_version) := ⟨rfl, rfl, rfl, by decide +kernel, rfl, by decide +kernel, by decide +kernel⟩
theorem bd_show_version (kV doc pm : Value) (an : Option Addr) (cdv ct : Value) (us : List Value) (h : us.length = 1) : bindArgs (PySem.W.fnOf "show_version" "show_version" (defArgs s_show_version) (defBody s_show_version) (defScope s_show_version) .none kV doc pm an cdv ct) ⟨us, []⟩ = pure ((["version"] : List Str).zip us) :=
  match us, h with | [_], _ => rfl
-- number_in: 0=word 1=sign
abbrev n_number_in : List Str := ["word", "sign"]
theorem sc_number_in : FnScope n_number_in ["word"] (defScope s_number_in) := ⟨rfl, rfl, rfl, by decide +kernel, rfl, by decide +kernel, by decide +kernel⟩
theorem bd_number_in (kV doc pm : Value) (an : Option Addr) (cdv ct : Value) (us : List Value) (h : us.length = 1) : bindArgs (PySem.W.fnOf "number_in" "number_in" (defArgs s_number_in) (defBody s_number_in) (defScope s_number_in) .none kV doc pm an cdv ct) ⟨us, []⟩ = pure ((["word"] : List Str).zip us) :=
  match us, h with | [_], _ => rfl
-- version_in: 0=word 1=numbers 2=part
abbrev n_version_in : List Str := ["word", "numbers", "part"]
theorem sc_version_in : FnScope n_version_in ["word"] (defScope s_version_in) := ⟨rfl, rfl, rfl, by decide +kernel, rfl, by decide +kernel, by decide +kernel⟩
theorem bd_version_in (kV doc pm : Value) (an : Option Addr) (cdv ct : Value) (us : List Value) (h : us.length = 1) : bindArgs (PySem.W.fnOf "version_in" "version_in" (defArgs s_version_in) (defBody s_version_in) (defScope s_version_in) .none kV doc pm an cdv ct) ⟨us, []⟩ = pure ((["word"] : List Str).zip us) :=
  match us, h with | [_], _ => rfl
-- raised: 0=version 1=place
abbrev n_raised : List Str := ["version", "place"]
theorem sc_raised : FnScope n_raised ["version", "place"] (defScope s_raised) := ⟨rfl, rfl, rfl, by decide +kernel, rfl, by decide +kernel, by decide +kernel⟩
theorem bd_raised (kV doc pm : Value) (an : Option Addr) (cdv ct : Value) (us : List Value) (h : us.length = 2) : bindArgs (PySem.W.fnOf "raised" "raised" (defArgs s_raised) (defBody s_raised) (defScope s_raised) .none kV doc pm an cdv ct) ⟨us, []⟩ = pure ((["version", "place"] : List Str).zip us) :=
  match us, h with | [_, _], _ => rfl
-- after: 0=version 1=place
abbrev n_after : List Str := ["version", "place"]
theorem sc_after : FnScope n_after ["version"] (defScope s_after) := ⟨rfl, rfl, rfl, by decide +kernel, rfl, by decide +kernel, by decide +kernel⟩
theorem bd_after (kV doc pm : Value) (an : Option Addr) (cdv ct : Value) (us : List Value) (h : us.length = 1) : bindArgs (PySem.W.fnOf "after" "after" (defArgs s_after) (defBody s_after) (defScope s_after) .none kV doc pm an cdv ct) ⟨us, []⟩ = pure ((["version"] : List Str).zip us) :=
  match us, h with | [_], _ => rfl
-- is_above: 0=high 1=low
abbrev n_is_above : List Str := ["high", "low"]
theorem sc_is_above : FnScope n_is_above ["high", "low"] (defScope s_is_above) := ⟨rfl, rfl, rfl, by decide +kernel, rfl, by decide +kernel, by decide +kernel⟩
theorem bd_is_above (kV doc pm : Value) (an : Option Addr) (cdv ct : Value) (us : List Value) (h : us.length = 2) : bindArgs (PySem.W.fnOf "is_above" "is_above" (defArgs s_is_above) (defBody s_is_above) (defScope s_is_above) .none kV doc pm an cdv ct) ⟨us, []⟩ = pure ((["high", "low"] : List Str).zip us) :=
  match us, h with | [_, _], _ => rfl
-- is_stretch: 0=thing
abbrev n_is_stretch : List Str := ["thing"]
theorem sc_is_stretch : FnScope n_is_stretch ["thing"] (defScope s_is_stretch) := ⟨rfl, rfl, rfl, by decide +kernel, rfl, by decide +kernel, by decide +kernel⟩
theorem bd_is_stretch (kV doc pm : Value) (an : Option Addr) (cdv ct : Value) (us : List Value) (h : us.length = 1) : bindArgs (PySem.W.fnOf "is_stretch" "is_stretch" (defArgs s_is_stretch) (defBody s_is_stretch) (defScope s_is_stretch) .none kV doc pm an cdv ct) ⟨us, []⟩ = pure ((["thing"] : List Str).zip us) :=
  match us, h with | [_], _ => rfl
-- is_range: 0=thing 1=part 2=one 3=other
abbrev n_is_range : List Str := ["thing", "part", "one", "other"]
theorem sc_is_range : FnScope n_is_range ["thing"] (defScope s_is_range) := ⟨rfl, rfl, rfl, by decide +kernel, rfl, by decide +kernel, by decide +kernel⟩
theorem bd_is_range (kV doc pm : Value) (an : Option Addr) (cdv ct : Value) (us : List Value) (h : us.length = 1) : bindArgs (PySem.W.fnOf "is_range" "is_range" (defArgs s_is_range) (defBody s_is_range) (defScope s_is_range) .none kV doc pm an cdv ct) ⟨us, []⟩ = pure ((["thing"] : List Str).zip us) :=
  match us, h with | [_], _ => rfl
-- none_of: 
abbrev n_none_of : List Str := []
theorem sc_none_of : FnScope n_none_of [] (defScope s_none_of) := ⟨rfl, rfl, rfl, by decide +kernel, rfl, by decide +kernel, by decide +kernel⟩
theorem bd_none_of (kV doc pm : Value) (an : Option Addr) (cdv ct : Value) (us : List Value) (h : us.length = 0) : bindArgs (PySem.W.fnOf "none_of" "none_of" (defArgs s_none_of) (defBody s_none_of) (defScope s_none_of) .none kV doc pm an cdv ct) ⟨us, []⟩ = pure (([] : List Str).zip us) :=
  match us, h with | [], _ => rfl
-- all_of: 
abbrev n_all_of : List Str := []
theorem sc_all_of : FnScope n_all_of [] (defScope s_all_of) := ⟨rfl, rfl, rfl, by decide +kernel, rfl, by decide +kernel, by decide +kernel⟩
theorem bd_all_of (kV doc pm : Value) (an : Option Addr) (cdv ct : Value) (us : List Value) (h : us.length = 0) : bindArgs (PySem.W.fnOf "all_of" "all_of" (defArgs s_all_of) (defBody s_all_of) (defScope s_all_of) .none kV doc pm an cdv ct) ⟨us, []⟩ = pure (([] : List Str).zip us) :=
  match us, h with | [], _ => rfl
-- stretch: 0=low 1=high
abbrev n_stretch : List Str := ["low", "high"]
theorem sc_stretch : FnScope n_stretch ["low", "high"] (defScope s_stretch) := ⟨rfl, rfl, rfl, by decide +kernel, rfl, by decide +kernel, by decide +kernel⟩
theorem bd_stretch (kV doc pm : Value) (an : Option Addr) (cdv ct : Value) (us : List Value) (h : us.length = 2) : bindArgs (PySem.W.fnOf "stretch" "stretch" (defArgs s_stretch) (defBody s_stretch) (defScope s_stretch) .none kV doc pm an cdv ct) ⟨us, []⟩ = pure ((["low", "high"] : List Str).zip us) :=
  match us, h with | [_, _], _ => rfl
-- just: 0=version
abbrev n_just : List Str := ["version"]
theorem sc_just : FnScope n_just ["version"] (defScope s_just) := ⟨rfl, rfl, rfl, by decide +kernel, rfl, by decide +kernel, by decide +kernel⟩
theorem bd_just (kV doc pm : Value) (an : Option Addr) (cdv ct : Value) (us : List Value) (h : us.length = 1) : bindArgs (PySem.W.fnOf "just" "just" (defArgs s_just) (defBody s_just) (defScope s_just) .none kV doc pm an cdv ct) ⟨us, []⟩ = pure ((["version"] : List Str).zip us) :=
  match us, h with | [_], _ => rfl
-- union: 0=one 1=other 2=found 3=low 4=high
abbrev n_union : List Str := ["one", "other", "found", "low", "high"]
theorem sc_union : FnScope n_union ["one", "other"] (defScope s_union) := ⟨rfl, rfl, rfl, by decide +kernel, rfl, by decide +kernel, by decide +kernel⟩
theorem bd_union (kV doc pm : Value) (an : Option Addr) (cdv ct : Value) (us : List Value) (h : us.length = 2) : bindArgs (PySem.W.fnOf "union" "union" (defArgs s_union) (defBody s_union) (defScope s_union) .none kV doc pm an cdv ct) ⟨us, []⟩ = pure ((["one", "other"] : List Str).zip us) :=
  match us, h with | [_, _], _ => rfl
-- rest: 0=one 1=found 2=low 3=begin 4=end
abbrev n_rest : List Str := ["one", "found", "low", "begin", "end"]
theorem sc_rest : FnScope n_rest ["one"] (defScope s_rest) := ⟨rfl, rfl, rfl, by decide +kernel, rfl, by decide +kernel, by decide +kernel⟩
theorem bd_rest (kV doc pm : Value) (an : Option Addr) (cdv ct : Value) (us : List Value) (h : us.length = 1) : bindArgs (PySem.W.fnOf "rest" "rest" (defArgs s_rest) (defBody s_rest) (defScope s_rest) .none kV doc pm an cdv ct) ⟨us, []⟩ = pure ((["one"] : List Str).zip us) :=
  match us, h with | [_], _ => rfl
-- meet: 0=one 1=other
abbrev n_meet : List Str := ["one", "other"]
theorem sc_meet : FnScope n_meet ["one", "other"] (defScope s_meet) := ⟨rfl, rfl, rfl, by decide +kernel, rfl, by decide +kernel, by decide +kernel⟩
theorem bd_meet (kV doc pm : Value) (an : Option Addr) (cdv ct : Value) (us : List Value) (h : us.length = 2) : bindArgs (PySem.W.fnOf "meet" "meet" (defArgs s_meet) (defBody s_meet) (defScope s_meet) .none kV doc pm an cdv ct) ⟨us, []⟩ = pure ((["one", "other"] : List Str).zip us) :=
  match us, h with | [_, _], _ => rfl
-- without: 0=one 1=other
abbrev n_without : List Str := ["one", "other"]
theorem sc_without : FnScope n_without ["one", "other"] (defScope s_without) := ⟨rfl, rfl, rfl, by decide +kernel, rfl, by decide +kernel, by decide +kernel⟩
theorem bd_without (kV doc pm : Value) (an : Option Addr) (cdv ct : Value) (us : List Value) (h : us.length = 2) : bindArgs (PySem.W.fnOf "without" "without" (defArgs s_without) (defBody s_without) (defScope s_without) .none kV doc pm an cdv ct) ⟨us, []⟩ = pure ((["one", "other"] : List Str).zip us) :=
  match us, h with | [_, _], _ => rfl
-- is_within: 0=one 1=other
abbrev n_is_within : List Str := ["one", "other"]
theorem sc_is_within : FnScope n_is_within ["one", "other"] (defScope s_is_within) := ⟨rfl, rfl, rfl, by decide +kernel, rfl, by decide +kernel, by decide +kernel⟩
theorem bd_is_within (kV doc pm : Value) (an : Option Addr) (cdv ct : Value) (us : List Value) (h : us.length = 2) : bindArgs (PySem.W.fnOf "is_within" "is_within" (defArgs s_is_within) (defBody s_is_within) (defScope s_is_within) .none kV doc pm an cdv ct) ⟨us, []⟩ = pure ((["one", "other"] : List Str).zip us) :=
  match us, h with | [_, _], _ => rfl
-- least_in: 0=one
abbrev n_least_in : List Str := ["one"]
theorem sc_least_in : FnScope n_least_in ["one"] (defScope s_least_in) := ⟨rfl, rfl, rfl, by decide +kernel, rfl, by decide +kernel, by decide +kernel⟩
theorem bd_least_in (kV doc pm : Value) (an : Option Addr) (cdv ct : Value) (us : List Value) (h : us.length = 1) : bindArgs (PySem.W.fnOf "least_in" "least_in" (defArgs s_least_in) (defBody s_least_in) (defScope s_least_in) .none kV doc pm an cdv ct) ⟨us, []⟩ = pure ((["one"] : List Str).zip us) :=
  match us, h with | [_], _ => rfl
-- parting_version: 0=one 1=other
abbrev n_parting_version : List Str := ["one", "other"]
theorem sc_parting_version : FnScope n_parting_version ["one", "other"] (defScope s_parting_version) := ⟨rfl, rfl, rfl, by decide +kernel, rfl, by decide +kernel, by decide +kernel⟩
theorem bd_parting_version (kV doc pm : Value) (an : Option Addr) (cdv ct : Value) (us : List Value) (h : us.length = 2) : bindArgs (PySem.W.fnOf "parting_version" "parting_version" (defArgs s_parting_version) (defBody s_parting_version) (defScope s_parting_version) .none kV doc pm an cdv ct) ⟨us, []⟩ = pure ((["one", "other"] : List Str).zip us) :=
  match us, h with | [_, _], _ => rfl
-- words_of: 0=text 1=sign 2=word
abbrev n_words_of : List Str := ["text", "sign", "word"]
theorem sc_words_of : FnScope n_words_of ["text"] (defScope s_words_of) := ⟨rfl, rfl, rfl, by decide +kernel, rfl, by decide +kernel, by decide +kernel⟩
theorem bd_words_of (kV doc pm : Value) (an : Option Addr) (cdv ct : Value) (us : List Value) (h : us.length = 1) : bindArgs (PySem.W.fnOf "words_of" "words_of" (defArgs s_words_of) (defBody s_words_of) (defScope s_words_of) .none kV doc pm an cdv ct) ⟨us, []⟩ = pure ((["text"] : List Str).zip us) :=
  match us, h with | [_], _ => rfl
-- word_at: 0=words 1=place
abbrev n_word_at : List Str := ["words", "place"]
theorem sc_word_at : FnScope n_word_at ["words", "place"] (defScope s_word_at) := ⟨rfl, rfl, rfl, by decide +kernel, rfl, by decide +kernel, by decide +kernel⟩
theorem bd_word_at (kV doc pm : Value) (an : Option Addr) (cdv ct : Value) (us : List Value) (h : us.length = 2) : bindArgs (PySem.W.fnOf "word_at" "word_at" (defArgs s_word_at) (defBody s_word_at) (defScope s_word_at) .none kV doc pm an cdv ct) ⟨us, []⟩ = pure ((["words", "place"] : List Str).zip us) :=
  match us, h with | [_, _], _ => rfl
-- led_range: 0=word 1=version
abbrev n_led_range : List Str := ["word", "version"]
theorem sc_led_range : FnScope n_led_range ["word", "version"] (defScope s_led_range) := ⟨rfl, rfl, rfl, by decide +kernel, rfl, by decide +kernel, by decide +kernel⟩
theorem bd_led_range (kV doc pm : Value) (an : Option Addr) (cdv ct : Value) (us : List Value) (h : us.length = 2) : bindArgs (PySem.W.fnOf "led_range" "led_range" (defArgs s_led_range) (defBody s_led_range) (defScope s_led_range) .none kV doc pm an cdv ct) ⟨us, []⟩ = pure ((["word", "version"] : List Str).zip us) :=
  match us, h with | [_, _], _ => rfl
-- read_atom: 0=words 1=place 2=word 3=version
abbrev n_read_atom : List Str := ["words", "place", "word", "version"]
theorem sc_read_atom : FnScope n_read_atom ["words", "place"] (defScope s_read_atom) := ⟨rfl, rfl, rfl, by decide +kernel, rfl, by decide +kernel, by decide +kernel⟩
theorem bd_read_atom (kV doc pm : Value) (an : Option Addr) (cdv ct : Value) (us : List Value) (h : us.length = 2) : bindArgs (PySem.W.fnOf "read_atom" "read_atom" (defArgs s_read_atom) (defBody s_read_atom) (defScope s_read_atom) .none kV doc pm an cdv ct) ⟨us, []⟩ = pure ((["words", "place"] : List Str).zip us) :=
  match us, h with | [_, _], _ => rfl
-- read_term: 0=words 1=place 2=deep 3=word 4=found 5=behind
abbrev n_read_term : List Str := ["words", "place", "deep", "word", "found", "behind"]
theorem sc_read_term : FnScope n_read_term ["words", "place", "deep"] (defScope s_read_term) := ⟨rfl, rfl, rfl, by decide +kernel, rfl, by decide +kernel, by decide +kernel⟩
theorem bd_read_term (kV doc pm : Value) (an : Option Addr) (cdv ct : Value) (us : List Value) (h : us.length = 3) : bindArgs (PySem.W.fnOf "read_term" "read_term" (defArgs s_read_term) (defBody s_read_term) (defScope s_read_term) .none kV doc pm an cdv ct) ⟨us, []⟩ = pure ((["words", "place", "deep"] : List Str).zip us) :=
  match us, h with | [_, _, _], _ => rfl
-- read_meets: 0=words 1=place 2=deep 3=found 4=other
abbrev n_read_meets : List Str := ["words", "place", "deep", "found", "other"]
theorem sc_read_meets : FnScope n_read_meets ["words", "place", "deep"] (defScope s_read_meets) := ⟨rfl, rfl, rfl, by decide +kernel, rfl, by decide +kernel, by decide +kernel⟩
theorem bd_read_meets (kV doc pm : Value) (an : Option Addr) (cdv ct : Value) (us : List Value) (h : us.length = 3) : bindArgs (PySem.W.fnOf "read_meets" "read_meets" (defArgs s_read_meets) (defBody s_read_meets) (defScope s_read_meets) .none kV doc pm an cdv ct) ⟨us, []⟩ = pure ((["words", "place", "deep"] : List Str).zip us) :=
  match us, h with | [_, _, _], _ => rfl
-- read_joined: 0=words 1=place 2=deep 3=found 4=other
abbrev n_read_joined : List Str := ["words", "place", "deep", "found", "other"]
theorem sc_read_joined : FnScope n_read_joined ["words", "place", "deep"] (defScope s_read_joined) := ⟨rfl, rfl, rfl, by decide +kernel, rfl, by decide +kernel, by decide +kernel⟩
theorem bd_read_joined (kV doc pm : Value) (an : Option Addr) (cdv ct : Value) (us : List Value) (h : us.length = 3) : bindArgs (PySem.W.fnOf "read_joined" "read_joined" (defArgs s_read_joined) (defBody s_read_joined) (defScope s_read_joined) .none kV doc pm an cdv ct) ⟨us, []⟩ = pure ((["words", "place", "deep"] : List Str).zip us) :=
  match us, h with | [_, _, _], _ => rfl
-- range_in: 0=words 1=found 2=place
abbrev n_range_in : List Str := ["words", "found", "place"]
theorem sc_range_in : FnScope n_range_in ["words"] (defScope s_range_in) := ⟨rfl, rfl, rfl, by decide +kernel, rfl, by decide +kernel, by decide +kernel⟩
theorem bd_range_in (kV doc pm : Value) (an : Option Addr) (cdv ct : Value) (us : List Value) (h : us.length = 1) : bindArgs (PySem.W.fnOf "range_in" "range_in" (defArgs s_range_in) (defBody s_range_in) (defScope s_range_in) .none kV doc pm an cdv ct) ⟨us, []⟩ = pure ((["words"] : List Str).zip us) :=
  match us, h with | [_], _ => rfl
-- read_range: 0=text
abbrev n_read_range : List Str := ["text"]
theorem sc_read_range : FnScope n_read_range ["text"] (defScope s_read_range) := ⟨rfl, rfl, rfl, by decide +kernel, rfl, by decide +kernel, by decide +kernel⟩
theorem bd_read_range (kV doc pm : Value) (an : Option Addr) (cdv ct : Value) (us : List Value) (h : us.length = 1) : bindArgs (PySem.W.fnOf "read_range" "read_range" (defArgs s_read_range) (defBody s_read_range) (defScope s_read_range) .none kV doc pm an cdv ct) ⟨us, []⟩ = pure ((["text"] : List Str).zip us) :=
  match us, h with | [_], _ => rfl
-- show_stretch: 0=low 1=high
abbrev n_show_stretch : List Str := ["low", "high"]
theorem sc_show_stretch : FnScope n_show_stretch ["low", "high"] (defScope s_show_stretch) := ⟨rfl, rfl, rfl, by decide +kernel, rfl, by decide +kernel, by decide +kernel⟩
theorem bd_show_stretch (kV doc pm : Value) (an : Option Addr) (cdv ct : Value) (us : List Value) (h : us.length = 2) : bindArgs (PySem.W.fnOf "show_stretch" "show_stretch" (defArgs s_show_stretch) (defBody s_show_stretch) (defScope s_show_stretch) .none kV doc pm an cdv ct) ⟨us, []⟩ = pure ((["low", "high"] : List Str).zip us) :=
  match us, h with | [_, _], _ => rfl
-- show_range: 0=one 1=low 2=high
abbrev n_show_range : List Str := ["one", "low", "high"]
theorem sc_show_range : FnScope n_show_range ["one"] (defScope s_show_range) := ⟨rfl, rfl, rfl, by decide +kernel, rfl, by decide +kernel, by decide +kernel⟩
theorem bd_show_range (kV doc pm : Value) (an : Option Addr) (cdv ct : Value) (us : List Value) (h : us.length = 1) : bindArgs (PySem.W.fnOf "show_range" "show_range" (defArgs s_show_range) (defBody s_show_range) (defScope s_show_range) .none kV doc pm an cdv ct) ⟨us, []⟩ = pure ((["one"] : List Str).zip us) :=
  match us, h with | [_], _ => rfl
-- l_bag: 0=_law_script 1=_law_cell
abbrev n_l_bag : List Str := ["_law_script", "_law_cell"]
theorem sc_l_bag : FnScope n_l_bag ["_law_script"] (defScope s_l_bag) := ⟨rfl, rfl, rfl, by decide +kernel, rfl, by decide +kernel, by decide +kernel⟩
theorem bd_l_bag (kV doc pm : Value) (an : Option Addr) (cdv ct : Value) (us : List Value) (h : us.length = 1) : bindArgs (PySem.W.fnOf "_law_bag" "_law_bag" (defArgs s_l_bag) (defBody s_l_bag) (defScope s_l_bag) .none kV doc pm an cdv ct) ⟨us, []⟩ = pure ((["_law_script"] : List Str).zip us) :=
  match us, h with | [_], _ => rfl
-- l_take: 0=_law_bag_here 1=_law_many 2=_law_cell 3=_law_stirred 4=_law_value 5=_law_begin 6=_law_second
abbrev n_l_take : List Str := ["_law_bag_here", "_law_many", "_law_cell", "_law_stirred", "_law_value", "_law_begin", "_law_second"]
theorem sc_l_take : FnScope n_l_take ["_law_bag_here", "_law_many"] (defScope s_l_take) := ⟨rfl, rfl, rfl, by decide +kernel, rfl, by decide +kernel, by decide +kernel⟩
theorem bd_l_take (kV doc pm : Value) (an : Option Addr) (cdv ct : Value) (us : List Value) (h : us.length = 2) : bindArgs (PySem.W.fnOf "_law_take" "_law_take" (defArgs s_l_take) (defBody s_l_take) (defScope s_l_take) .none kV doc pm an cdv ct) ⟨us, []⟩ = pure ((["_law_bag_here", "_law_many"] : List Str).zip us) :=
  match us, h with | [_, _], _ => rfl
-- l_one: 0=_law_bag_here 1=_law_things
abbrev n_l_one : List Str := ["_law_bag_here", "_law_things"]
theorem sc_l_one : FnScope n_l_one ["_law_bag_here", "_law_things"] (defScope s_l_one) := ⟨rfl, rfl, rfl, by decide +kernel, rfl, by decide +kernel, by decide +kernel⟩
theorem bd_l_one (kV doc pm : Value) (an : Option Addr) (cdv ct : Value) (us : List Value) (h : us.length = 2) : bindArgs (PySem.W.fnOf "_law_one" "_law_one" (defArgs s_l_one) (defBody s_l_one) (defScope s_l_one) .none kV doc pm an cdv ct) ⟨us, []⟩ = pure ((["_law_bag_here", "_law_things"] : List Str).zip us) :=
  match us, h with | [_, _], _ => rfl
-- l_versions: 0=_law_bag_here 1=_law_many 2=_law_found 3=_law_turn
abbrev n_l_versions : List Str := ["_law_bag_here", "_law_many", "_law_found", "_law_turn"]
theorem sc_l_versions : FnScope n_l_versions ["_law_bag_here", "_law_many"] (defScope s_l_versions) := ⟨rfl, rfl, rfl, by decide +kernel, rfl, by decide +kernel, by decide +kernel⟩
theorem bd_l_versions (kV doc pm : Value) (an : Option Addr) (cdv ct : Value) (us : List Value) (h : us.length = 2) : bindArgs (PySem.W.fnOf "_law_versions" "_law_versions" (defArgs s_l_versions) (defBody s_l_versions) (defScope s_l_versions) .none kV doc pm an cdv ct) ⟨us, []⟩ = pure ((["_law_bag_here", "_law_many"] : List Str).zip us) :=
  match us, h with | [_, _], _ => rfl
-- l_version: 0=_law_bag_here 1=_law_menu 2=_law_part
abbrev n_l_version : List Str := ["_law_bag_here", "_law_menu", "_law_part"]
theorem sc_l_version : FnScope n_l_version ["_law_bag_here"] (defScope s_l_version) := ⟨rfl, rfl, rfl, by decide +kernel, rfl, by decide +kernel, by decide +kernel⟩
theorem bd_l_version (kV doc pm : Value) (an : Option Addr) (cdv ct : Value) (us : List Value) (h : us.length = 1) : bindArgs (PySem.W.fnOf "_law_version" "_law_version" (defArgs s_l_version) (defBody s_l_version) (defScope s_l_version) .none kV doc pm an cdv ct) ⟨us, []⟩ = pure ((["_law_bag_here"] : List Str).zip us) :=
  match us, h with | [_], _ => rfl
-- l_far_versions: 0=_law_bag_here 1=_law_found 2=_law_last 3=_law_some 4=_law_turn
abbrev n_l_far_versions : List Str := ["_law_bag_here", "_law_found", "_law_last", "_law_some", "_law_turn"]
theorem sc_l_far_versions : FnScope n_l_far_versions ["_law_bag_here"] (defScope s_l_far_versions) := ⟨rfl, rfl, rfl, by decide +kernel, rfl, by decide +kernel, by decide +kernel⟩
theorem bd_l_far_versions (kV doc pm : Value) (an : Option Addr) (cdv ct : Value) (us : List Value) (h : us.length = 1) : bindArgs (PySem.W.fnOf "_law_far_versions" "_law_far_versions" (defArgs s_l_far_versions) (defBody s_l_far_versions) (defScope s_l_far_versions) .none kV doc pm an cdv ct) ⟨us, []⟩ = pure ((["_law_bag_here"] : List Str).zip us) :=
  match us, h with | [_], _ => rfl
-- l_behind_version: 0=_law_version_here 1=_law_at
abbrev n_l_behind_version : List Str := ["_law_version_here", "_law_at"]
theorem sc_l_behind_version : FnScope n_l_behind_version ["_law_version_here"] (defScope s_l_behind_version) := ⟨rfl, rfl, rfl, by decide +kernel, rfl, by decide +kernel, by decide +kernel⟩
theorem bd_l_behind_version (kV doc pm : Value) (an : Option Addr) (cdv ct : Value) (us : List Value) (h : us.length = 1) : bindArgs (PySem.W.fnOf "_law_behind_version" "_law_behind_version" (defArgs s_l_behind_version) (defBody s_l_behind_version) (defScope s_l_behind_version) .none kV doc pm an cdv ct) ⟨us, []⟩ = pure ((["_law_version_here"] : List Str).zip us) :=
  match us, h with | [_], _ => rfl
-- l_near_points: 0=_law_versions_here 1=_law_later 2=_law_version_here
abbrev n_l_near_points : List Str := ["_law_versions_here", "_law_later", "_law_version_here"]
theorem sc_l_near_points : FnScope n_l_near_points ["_law_versions_here"] (defScope s_l_near_points) := ⟨rfl, rfl, rfl, by decide +kernel, rfl, by decide +kernel, by decide +kernel⟩
theorem bd_l_near_points (kV doc pm : Value) (an : Option Addr) (cdv ct : Value) (us : List Value) (h : us.length = 1) : bindArgs (PySem.W.fnOf "_law_near_points" "_law_near_points" (defArgs s_l_near_points) (defBody s_l_near_points) (defScope s_l_near_points) .none kV doc pm an cdv ct) ⟨us, []⟩ = pure ((["_law_versions_here"] : List Str).zip us) :=
  match us, h with | [_], _ => rfl
-- l_range_by: 0=_law_points_here 1=_law_is_told 2=_law_found 3=_law_at 4=_law_point 5=_law_high
abbrev n_l_range_by : List Str := ["_law_points_here", "_law_is_told", "_law_found", "_law_at", "_law_point", "_law_high"]
theorem sc_l_range_by : FnScope n_l_range_by ["_law_points_here", "_law_is_told"] (defScope s_l_range_by) := ⟨rfl, rfl, rfl, by decide +kernel, rfl, by decide +kernel, by decide +kernel⟩
theorem bd_l_range_by (kV doc pm : Value) (an : Option Addr) (cdv ct : Value) (us : List Value) (h : us.length = 2) : bindArgs (PySem.W.fnOf "_law_range_by" "_law_range_by" (defArgs s_l_range_by) (defBody s_l_range_by) (defScope s_l_range_by) .none kV doc pm an cdv ct) ⟨us, []⟩ = pure ((["_law_points_here", "_law_is_told"] : List Str).zip us) :=
  match us, h with | [_, _], _ => rfl
-- l_any_range: 0=_law_bag_here 1=_law_versions_here 2=_law_points_here 3=_law_way 4=_law_told 5=_law_point
abbrev n_l_any_range : List Str := ["_law_bag_here", "_law_versions_here", "_law_points_here", "_law_way", "_law_told", "_law_point"]
theorem sc_l_any_range : FnScope n_l_any_range ["_law_bag_here", "_law_versions_here"] (defScope s_l_any_range) := ⟨rfl, rfl, rfl, by decide +kernel, rfl, by decide +kernel, by decide +kernel⟩
theorem bd_l_any_range (kV doc pm : Value) (an : Option Addr) (cdv ct : Value) (us : List Value) (h : us.length = 2) : bindArgs (PySem.W.fnOf "_law_any_range" "_law_any_range" (defArgs s_l_any_range) (defBody s_l_any_range) (defScope s_l_any_range) .none kV doc pm an cdv ct) ⟨us, []⟩ = pure ((["_law_bag_here", "_law_versions_here"] : List Str).zip us) :=
  match us, h with | [_, _], _ => rfl
-- l_points: 0=_law_ranges 1=_law_more 2=_law_found 3=_law_stretches 4=_law_low 5=_law_high
abbrev n_l_points : List Str := ["_law_ranges", "_law_more", "_law_found", "_law_stretches", "_law_low", "_law_high"]
theorem sc_l_points : FnScope n_l_points ["_law_ranges", "_law_more"] (defScope s_l_points) := ⟨rfl, rfl, rfl, by decide +kernel, rfl, by decide +kernel, by decide +kernel⟩
theorem bd_l_points (kV doc pm : Value) (an : Option Addr) (cdv ct : Value) (us : List Value) (h : us.length = 2) : bindArgs (PySem.W.fnOf "_law_points" "_law_points" (defArgs s_l_points) (defBody s_l_points) (defScope s_l_points) .none kV doc pm an cdv ct) ⟨us, []⟩ = pure ((["_law_ranges", "_law_more"] : List Str).zip us) :=
  match us, h with | [_, _], _ => rfl
-- l_is_in: 0=_law_stretches 1=_law_version_here 2=_law_low 3=_law_high
abbrev n_l_is_in : List Str := ["_law_stretches", "_law_version_here", "_law_low", "_law_high"]
theorem sc_l_is_in : FnScope n_l_is_in ["_law_stretches", "_law_version_here"] (defScope s_l_is_in) := ⟨rfl, rfl, rfl, by decide +kernel, rfl, by decide +kernel, by decide +kernel⟩
theorem bd_l_is_in (kV doc pm : Value) (an : Option Addr) (cdv ct : Value) (us : List Value) (h : us.length = 2) : bindArgs (PySem.W.fnOf "_law_is_in" "_law_is_in" (defArgs s_l_is_in) (defBody s_l_is_in) (defScope s_l_is_in) .none kV doc pm an cdv ct) ⟨us, []⟩ = pure ((["_law_stretches", "_law_version_here"] : List Str).zip us) :=
  match us, h with | [_, _], _ => rfl
-- l_deed: 0=_law_bag_here 1=_law_found 2=_law_truths 3=_law_a 4=_law_b 5=_law_way 6=_law_both 7=_law_x 8=_law_y
abbrev n_l_deed : List Str := ["_law_bag_here", "_law_found", "_law_truths", "_law_a", "_law_b", "_law_way", "_law_both", "_law_x", "_law_y"]
theorem sc_l_deed : FnScope n_l_deed ["_law_bag_here", "_law_found", "_law_truths"] (defScope s_l_deed) := ⟨rfl, rfl, rfl, by decide +kernel, rfl, by decide +kernel, by decide +kernel⟩
theorem bd_l_deed (kV doc pm : Value) (an : Option Addr) (cdv ct : Value) (us : List Value) (h : us.length = 3) : bindArgs (PySem.W.fnOf "_law_deed" "_law_deed" (defArgs s_l_deed) (defBody s_l_deed) (defScope s_l_deed) .none kV doc pm an cdv ct) ⟨us, []⟩ = pure ((["_law_bag_here", "_law_found", "_law_truths"] : List Str).zip us) :=
  match us, h with | [_, _, _], _ => rfl
-- l_alike: 0=_law_found 1=_law_due
abbrev n_l_alike : List Str := ["_law_found", "_law_due"]
theorem sc_l_alike : FnScope n_l_alike ["_law_found", "_law_due"] (defScope s_l_alike) := ⟨rfl, rfl, rfl, by decide +kernel, rfl, by decide +kernel, by decide +kernel⟩
theorem bd_l_alike (kV doc pm : Value) (an : Option Addr) (cdv ct : Value) (us : List Value) (h : us.length = 2) : bindArgs (PySem.W.fnOf "_law_alike" "_law_alike" (defArgs s_l_alike) (defBody s_l_alike) (defScope s_l_alike) .none kV doc pm an cdv ct) ⟨us, []⟩ = pure ((["_law_found", "_law_due"] : List Str).zip us) :=
  match us, h with | [_, _], _ => rfl
-- l_said: 0=_law_version_here 1=_law_part
abbrev n_l_said : List Str := ["_law_version_here", "_law_part"]
theorem sc_l_said : FnScope n_l_said ["_law_version_here"] (defScope s_l_said) := ⟨rfl, rfl, rfl, by decide +kernel, rfl, by decide +kernel, by decide +kernel⟩
theorem bd_l_said (kV doc pm : Value) (an : Option Addr) (cdv ct : Value) (us : List Value) (h : us.length = 1) : bindArgs (PySem.W.fnOf "_law_said" "_law_said" (defArgs s_l_said) (defBody s_l_said) (defScope s_l_said) .none kV doc pm an cdv ct) ⟨us, []⟩ = pure ((["_law_version_here"] : List Str).zip us) :=
  match us, h with | [_], _ => rfl
-- l_show_range: 0=_law_stretches 1=_law_found 2=_law_low 3=_law_high
abbrev n_l_show_range : List Str := ["_law_stretches", "_law_found", "_law_low", "_law_high"]
theorem sc_l_show_range : FnScope n_l_show_range ["_law_stretches"] (defScope s_l_show_range) := ⟨rfl, rfl, rfl, by decide +kernel, rfl, by decide +kernel, by decide +kernel⟩
theorem bd_l_show_range (kV doc pm : Value) (an : Option Addr) (cdv ct : Value) (us : List Value) (h : us.length = 1) : bindArgs (PySem.W.fnOf "_law_show_range" "_law_show_range" (defArgs s_l_show_range) (defBody s_l_show_range) (defScope s_l_show_range) .none kV doc pm an cdv ct) ⟨us, []⟩ = pure ((["_law_stretches"] : List Str).zip us) :=
  match us, h with | [_], _ => rfl
-- l_are_parted: 0=_law_bag_here 1=_law_points_here 2=_law_found 3=_law_truths 4=_law_a 5=_law_b 6=_law_apart 7=_law_within 8=_law_told 9=_law_point 10=_law_x 11=_law_y
abbrev n_l_are_parted : List Str := ["_law_bag_here", "_law_points_here", "_law_found", "_law_truths", "_law_a", "_law_b", "_law_apart", "_law_within", "_law_told", "_law_point", "_law_x", "_law_y"]
theorem sc_l_are_parted : FnScope n_l_are_parted ["_law_bag_here", "_law_points_here", "_law_found", "_law_truths"] (defScope s_l_are_parted) := ⟨rfl, rfl, rfl, by decide +kernel, rfl, by decide +kernel, by decide +kernel⟩
theorem bd_l_are_parted (kV doc pm : Value) (an : Option Addr) (cdv ct : Value) (us : List Value) (h : us.length = 4) : bindArgs (PySem.W.fnOf "_law_are_parted" "_law_are_parted" (defArgs s_l_are_parted) (defBody s_l_are_parted) (defScope s_l_are_parted) .none kV doc pm an cdv ct) ⟨us, []⟩ = pure ((["_law_bag_here", "_law_points_here", "_law_found", "_law_truths"] : List Str).zip us) :=
  match us, h with | [_, _, _, _], _ => rfl
-- law: 0=_law_script 1=_law_bag_here 2=_law_turn 3=_law_versions_here 4=_law_found 5=_law_points_here 6=_law_truths 7=_law_step 8=_law_told 9=_law_row 10=_law_its 11=_law_due 12=_law_k 13=_law_one_here 14=_law_point
abbrev n_law : List Str := ["_law_script", "_law_bag_here", "_law_turn", "_law_versions_here", "_law_found", "_law_points_here", "_law_truths", "_law_step", "_law_told", "_law_row", "_law_its", "_law_due", "_law_k", "_law_one_here", "_law_point"]
theorem sc_law : FnScope n_law ["_law_script"] (defScope s_law) := ⟨rfl, rfl, rfl, by decide +kernel, rfl, by decide +kernel, by decide +kernel⟩
theorem bd_law (kV doc pm : Value) (an : Option Addr) (cdv ct : Value) (us : List Value) (h : us.length = 1) : bindArgs (PySem.W.fnOf "law" "law" (defArgs s_law) (defBody s_law) (defScope s_law) .none kV doc pm an cdv ct) ⟨us, []⟩ = pure ((["_law_script"] : List Str).zip us) :=
  match us, h with | [_], _ => rfl
end K3

/-! the rules with the written part K named (inside a comprehension the context is another) -/
namespace K3
open PySem PySem.Spec PyProof.Rows L2
theorem atN {α : Type} {xs : List α} {i : Nat} {x : α} (h : xs[i]? = some x) : atI xs ((i : Nat) : Int) = some x := by
  have hi : i < xs.length := by
    rcases Nat.lt_or_ge i xs.length with z | z
    · exact z
    · rw [List.getElem?_eq_none z] at h
      cases h
  unfold atI ixN
  rw [if_pos (by omega), if_pos (by omega), Int.toNat_natCast]
  exact h
theorem at0 {α : Type} {x : α} {r : List α} : atI (x :: r) 0 = some x := atN (i := 0) rfl
theorem atL {α : Type} {x : α} {r : List α} : atI (r ++ [x]) (-1) = some x := by
  unfold atI ixN
  rw [if_neg (by omega), if_pos (by rw [List.length_append, List.length_singleton]; omega)]
  have e : (-1 + ((r ++ [x]).length : Int)).toNat = r.length := by
    rw [List.length_append, List.length_singleton]
    omega
  show (r ++ [x])[(-1 + ((r ++ [x]).length : Int)).toNat]? = some x
  rw [e]
  simp
section
variable {X : Cx} (K : PySem.W.Frag)
theorem ixT (h : X.K = K := by rfl) : IxR X (rIxT K) := h ▸ ix_tup
theorem ixL (h : X.K = K := by rfl) : IxR X (rIxL K) := h ▸ ix_list
theorem slT (h : X.K = K := by rfl) : SlR X (rSlA K) := h ▸ sl_tupA
theorem slL (h : X.K = K := by rfl) : SlR X (rSlL K) := h ▸ sl_list
theorem pgT (n : Nat) {es : List Expr} {k : Nat} {t : TGs} {pos : Pos} (p : PGs X es t) (h : X.K = K := by rfl) (hc : X.calm = true := by rfl) (hn : (assignEach es X.env).length = n := by rfl) (hst : (assignEach es X.env).findIdx? (·.1) = none := by rfl) :
    PG X (.Tuple es k pos) (gTup K n t) := h ▸ pg_tup hc p hn hst
theorem ltT (hu : X.A.units < cLine) (h : X.K = K := by rfl) : OpR X (compareOp .Lt) (rLtT K) := h ▸ op_ltT hu
theorem leT (hu : X.A.units < cLine) (h : X.K = K := by rfl) : OpR X (compareOp .LtE) (rLeT K) := h ▸ op_leT hu
theorem eqD (hu : X.A.units + 64 < cLine) (h : X.K = K := by rfl) : OpR X (compareOp .Eq) (rEqD K) := h ▸ op_eqD hu
theorem neD (hu : X.A.units + 64 < cLine) (h : X.K = K := by rfl) : OpR X (compareOp .NotEq) (rNeD K) := h ▸ op_neD hu
def rLenK (K : PySem.W.Frag) : List V → Hp → VK → Prop := fun xs H Q => ∃ x n, xs = [x] ∧ LenV K x H n ∧ Q (.int (n : Nat)) H
theorem lenK (h : X.K = K := by rfl) : CallR X (.builtin "len") (rLenK K) := h ▸ call_len
theorem allK (h : X.K = K := by rfl) (hc : X.calm = true := by rfl) : CallR X (.builtin "all") (rAll K) := h ▸ cr_all hc
theorem isiK (h : X.K = K := by rfl) : CallR X (.builtin "isinstance") (rIsi K) := h ▸ call_isi
theorem catA (h : X.K = K := by rfl) : OpR X (binaryOp .Add) (rCatA K) := h ▸ op_catA
theorem inQ (h : X.K = K := by rfl) : OpR X (compareOp .In) (rIn K false) := h ▸ op_in_seq
theorem ninQ (h : X.K = K := by rfl) : OpR X (compareOp .NotIn) (rIn K true) := h ▸ op_notIn_seq
theorem paStar {e : Expr} {p : Pos} {es : List Expr} {te : TE} {t : TA} (he : PE X e te) (hr : PA X es t) (h : X.K = K := by rfl) (hs : starEach (.Starred e p :: es) X.env = (true, eval e X.env) :: starEach es X.env := by rfl) : PA X (.Starred e p :: es) (StX.tStar K te t) := h ▸ StX.pa_star he hr hs
/-- x[i], i no slice -/
theorem peIx {a b : Expr} {pos : Pos} {ta tb : TE} {r : R2} (hr : IxR X r) (ha : PE X a ta) (hb : PE X b tb) (hs : PlainIx b := by intro _ _; rfl) : PE X (.Subscript a b pos) (tOp r ta tb) := pe_ix hr ha hb hs
theorem peT {a : Expr} {pos : Pos} {i : Int} {j : Nat} {p2 : Pos} {ta : TE} (ha : PE X a ta) (h : X.K = K := by rfl) : PE X (.Subscript a (.Constant (.int i) j p2) pos) (tOp (rIxT K) ta (tC (.int i))) := peIx (ixT K h) ha pe_int
theorem peL {a : Expr} {pos : Pos} {i : Int} {j : Nat} {p2 : Pos} {ta : TE} (ha : PE X a ta) (h : X.K = K := by rfl) : PE X (.Subscript a (.Constant (.int i) j p2) pos) (tOp (rIxL K) ta (tC (.int i))) := peIx (ixL K h) ha pe_int
end
end K3

/-! list.extend(tuple); xs[i] += e -/
namespace K3
open PySem PySem.Spec PyProof.Rows L2
open PySem.AutoSeq1 in
theorem ext_tup (l b : Addr) (xs ys : Array Value) (n m : Nat) (dd : Option Addr) (sl : Array (Option Value)) (h0 : ¬(!xs.isEmpty && Builtin.List.listTooLong (xs.size + ys.size)) = true) (h1 : xs.size ≤ sizeLine) (h2 : xs.size + ys.size ≤ sizeLine + 1) :
    Meets (Builtin.«list.extend» ⟨[.ref l, .ref b], []⟩) (fun _ R s => s.heap.get? l = some { cls := .type "list", dict := none, data := .seq xs n, slots := #[] } ∧ s.heap.get? b = some { cls := .type "tuple", dict := dd, data := .seq ys m, slots := sl } ∧
      R (.ok (.ret Value.none)) { s with heap := s.heap.update l (Obj.mapSeq fun x => x ++ ys), toks := s.toks }) :=
  .of_wp fun prog w A R s h => by
    obtain ⟨hp, gg, dr, tk, os⟩ := s
    obtain ⟨e1, e2, h⟩ := h
    have f1 := idx_int
    have f2 := AutoSeq1.sub_tuple_tuple
    have f3 := AutoSeq1.sub_list_list
    have f4 := AutoSeq1.sub_tuple_list
    have f5 := AutoSeq1.sub_list_tuple
    have hz' : (xs ++ ys).size ≤ sizeLine + 1 := by rw [Array.size_append]; exact h2
    wp_walk using (wpAny_updateSeq e1 rfl (hz := h1) (_hz' := hz')), wpAny_loadPart' e1, wpAny_loadPart' e2
    exact ⟨_, rfl, h⟩
def rExtT (K : PySem.W.Frag) : V → List V → Hp → VK → Prop := fun x vs H Q => ∃ l b xs zs, x = .ref l ∧ vs = [.ref b] ∧ H l = some (.lst xs) ∧ SqT K H b zs ∧ xs.length + zs.length ≤ sizeLine ∧ Q .non (upd H l (.lst (xs ++ zs)))
def rGetL (K : PySem.W.Frag) : R2 := fun x y H Q => ∃ p xs i v, x = .ref p ∧ y = .int i ∧ 0 ≤ i ∧ SqL K H p xs ∧ atI xs i = some v ∧ Q v H
section
variable {X : Cx}
theorem mt_extT : MtM X "list.extend" (rExtT X.K) := by
  intro pins s σ H x vs v us Q I rx rv h
  obtain ⟨l, b, xs, zs, rfl, rfl, hH, hB, hz, q⟩ := h
  cases rx
  obtain ⟨u, rfl, ru⟩ := rv.one
  cases ru
  obtain ⟨z, its, n, r, hl, e⟩ := I.lstM hH
  obtain ⟨its2, r2, ⟨⟨oc, od, dt, sl⟩, e2, c2, m, d2⟩, hl2⟩ := I.tuple hB
  simp only at c2 d2
  subst c2 d2
  have k2 := r2.length
  have hsz : its.toArray.size + its2.toArray.size ≤ sizeLine := by rw [List.size_toArray, List.size_toArray]; omega
  have hlong : ¬ (!its.toArray.isEmpty && Builtin.List.listTooLong (its.toArray.size + its2.toArray.size)) = true := by
    rw [notLongL hsz, Bool.and_false]
    exact Bool.false_ne_true
  refine call_meets F.slot_list_extend ⟨_, e, rfl⟩ F.entry_list_extend (F.args_list_extend_2 _ _) (ext_tup l b its.toArray its2.toArray n m od sl hlong (by rw [List.size_toArray]; omega) (by omega)) ⟨e, e2, ?_⟩
  refine ⟨.non, _, I.lset (its' := its ++ its2) hH e (by simp) (r.append r2) ?_, rfl, q⟩
  rw [List.length_append]
  omega
/-- the item that is read before xs[i] += e -/
theorem getL : PGet X (rGetL X.K) := by
  intro pins s σ H o y ov iv Q I ro ri h
  obtain ⟨p, xs, i, z, rfl, rfl, h0, hq, he, q⟩ := h
  cases ro
  obtain ⟨t, rfl⟩ := ri
  obtain ⟨its, r, pl, hz⟩ := I.list hq
  obtain ⟨j, h1, h2, h3, h4, h5⟩ := atI_get he
  obtain ⟨u, ew, ru⟩ := r.get h2
  have hl := r.length
  have hn := line63
  have fin : EP X pins σ Q u s := ⟨z, H, I, ru, q⟩
  have hj : i.toNat = j := by
    rw [seqIndex_of h0 h5] at h1
    exact Option.some.inj h1
  exact wpAny_getItem_list pl.isList h0 (by omega) (by rw [hj]; simpa using ew) fin
end
end K3

namespace K3
open PySem PySem.Spec PyProof.Rows L2
section
variable {P : Program} {w : World} {K : PySem.W.Frag} {mg : Str → Option Value} {base : Heap} {T : Tbl}
def spIsInt : Sp := fun vs H Q _ => ∃ i, vs = [.int i] ∧ Q (.bl true) H
theorem ok_is_integer (G : Glo K mg) (D : Top K mg "is_integer" s_is_integer) : DefF P w K mg base 1 "is_integer" ["thing"] spIsInt := by
  refine def_of D sc_is_integer bd_is_integer (fun vs H Q E ⟨i, e, _⟩ => by rw [e]; rfl) ?_
  rintro f cdv A outer s H vs Q E hr ⟨i, rfl, q⟩
  refine ⟨_, pss_one (ps_ret (pe_and (pe_callB call_isi (by rfl) (G.free "isinstance" (by decide +kernel)) rfl (pa_cons (pv 0) (pa_cons (pe_bltn (v := .ty "int") (by rfl) (G.free "int" (by decide +kernel)) rfl rfl) pa_nil)))
    (pe_one (pe_not (pe_callB call_isi (by rfl) (G.free "isinstance" (by decide +kernel)) rfl (pa_cons (pv 0) (pa_cons (pe_bltn (v := .ty "bool") (by rfl) (G.free "bool" (by decide +kernel)) rfl rfl) pa_nil))))))), ?_⟩
  refine ⟨.int i, rfl, .int i, .ty "int", .type "int", .type "int", true, rfl, .ty "int", .base (.int i), kit_ty (by decide +kernel), true, rfl, iteT ?_⟩
  exact ⟨.int i, rfl, .int i, .ty "bool", .type "int", .type "bool", false, rfl, .ty "bool", .base (.int i), kit_ty (by decide +kernel), false, rfl, q⟩
/-- is_version of a version -/
def spIsVer (T : Tbl) (K : PySem.W.Frag) : Sp := fun vs H Q _ => ∃ v n, vs = [v] ∧ IsV (SqT K H) v n ∧ ∀ H', Go T [] H H' → Q (.bl true) H'
theorem vI_len (n : Nat) : (vI n).length = 3 := rfl
theorem vI_ok {n : Nat} (h : n < MX) : ∀ (i : Nat) (x : V), ((vI n).map V.int)[i]? = some x → ∃ z : Int, x = .int z ∧ 0 ≤ z ∧ z ≤ 999999 := fun i x e => by
  unfold MX at h
  match i, e with
  | 0, e => exact ⟨VA n, by simpa using e.symm, by simp only [VA]; omega, by simp only [VA]; omega⟩
  | 1, e => exact ⟨VB n, by simpa using e.symm, by simp only [VB]; omega, by simp only [VB]; omega⟩
  | 2, e => exact ⟨VC n, by simpa using e.symm, by simp only [VC]; omega, by simp only [VC]; omega⟩
  | i + 3, e => simp at e
theorem ok_is_version (G : Glo K mg) (D : Top K mg "is_version" s_is_version) (D1 : DefF P w K mg base 1 "is_integer" ["thing"] spIsInt) : DefF P w K mg base 2 "is_version" ["thing"] (spIsVer T K) := by
  refine def_of D sc_is_version bd_is_version (fun vs H Q E ⟨i, _, e, _⟩ => by rw [e]; rfl) ?_
  rintro f cdv A outer s H vs Q E hr ⟨v, n, rfl, ⟨p, rfl, hp, hn⟩, qq⟩
  obtain ⟨tm, hm⟩ := G.most
  refine ⟨_, pss_cons (ps_if (PW.pt (pw_or (pt_not (pt_val (pe_callB call_isi (by rfl) (G.free "isinstance" (by decide +kernel)) rfl (pa_cons (pv 0) (pa_cons (pe_bltn (v := .ty "tuple") (by rfl) (G.free "tuple" (by decide +kernel)) rfl rfl) pa_nil)))))
      (pw_or1 (pt_cmpR op_ne (pe_callB call_len (by rfl) (G.free "len" (by decide +kernel)) rfl (pa_cons (pv 0) pa_nil)) pe_int (nomark _))))) pss_never pss_nil)
    (pss_one (ps_ret (pe_callB (cr_all rfl) (by rfl) (G.free "all" (by decide +kernel)) rfl (pa_cons (pe_lcW (own := [("number", 1)]) sc_is_version.nd (blkOk_by (N := n_is_version) (sc := defScope s_is_version) (by decide +kernel)) (pi_tup (pv 0))
      (fun s' H' C cl fp => pg_name (i := 1) sc_is_version.nd rfl (.inl rfl)) (fun s' H' C cl fp => pts_nil)
      (fun s' H' C cl fp => pe_and (pe_D D1 hr (by rfl) (pa_cons (pv 1) pa_nil)) (pe_one (pe_chain op_le op_le pe_int (pv 1) (pe_glob (v := .int 999999) (by rfl) hm ⟨tm, rfl⟩))))) pa_nil)))), ?_⟩
  refine ⟨.ref p, rfl, .ref p, .ty "tuple", .type "tuple", .type "tuple", true, rfl, .ty "tuple", tyx_tup hp, kit_ty (by decide +kernel), true, rfl, iteF ?_⟩
  refine ⟨.ref p, rfl, .ref p, 3, rfl, .inr ⟨_, hp, rfl⟩, rfl, false, rfl, iteF ?_⟩
  refine ⟨.ref p, rfl, p, rfl, ⟨_, hp⟩, ?_⟩
  refine lc_go (T := T) (M := []) (it_tup (xs := (vI n).map V.int)) (fun _ => true) (fun _ y _ => y = .bl true) (fun _ _ => True) (show 3 < sizeLine by decide) (fun b m => by cases m) (fun q H' hq g => g.sqt hp) (fun i y q H' H'' _ _ e => e) (fun i x H' Kc Kn hi g it kc _ => ?_) fun q ys H' hq g hl pr => ?_
  · obtain ⟨z, rfl, h0, h1⟩ := vI_ok hn i x it
    refine ⟨rfl, lc_yes ⟨.int z, rfl, z, rfl, true, rfl, iteT ⟨.int z, rfl, 0, z, rfl, rfl, true, by simp [h0], iteT ⟨z, 999999, rfl, rfl, ?_⟩⟩⟩⟩
    exact kc _ _ rfl Go.refl (by show V.bl (decide (z ≤ 999999)) = _; rw [decide_eq_true h1]) fun _ _ _ => trivial
  · have e : ys = (List.replicate 3 true).map V.bl := by
      have e1 := Paired.isMap (f := fun _ => V.bl true) pr
      rw [e1]
      rfl
    refine ⟨q, List.replicate 3 true, rfl, .of (by rw [← e]; exact hl), ?_⟩
    exact qq _ g
/-! ### numbers of versions -/
theorem vlt (n m : Nat) : HT.lexLt (vI n) (vI m) = decide (n < m) := by
  have h1 := ver_parts n
  have h2 := ver_parts m
  show (if VA n = VA m then (if VB n = VB m then (if VC n = VC m then false else decide (VC n < VC m)) else decide (VB n < VB m)) else decide (VA n < VA m)) = _
  simp only [VA, VB, VC]
  split
  · split
    · split
      · rw [eq_comm, decide_eq_false_iff_not]
        omega
      · rw [decide_eq_decide]
        omega
    · rw [decide_eq_decide]
      omega
  · rw [decide_eq_decide]
    omega
/-- the version behind n -/
def nxt (n : Nat) : Option Nat := if n + 1 < MX then some (n + 1) else none
def aboveB : Option Nat → Nat → Bool
  | none, _ => true
  | some h, n => decide (n < h)
theorem aboveB_nxt (n : Nat) : aboveB (nxt n) n = true := by
  unfold nxt
  split
  · exact decide_eq_true (Nat.lt_succ_self n)
  · rfl
def spAbove (K : PySem.W.Frag) : Sp := fun vs H Q _ => ∃ u v o n, vs = [u, v] ∧ IsE (SqT K H) u o ∧ IsV (SqT K H) v n ∧ Q (.bl (aboveB o n)) H
theorem ok_is_above (D : Top K mg "is_above" s_is_above) : DefF P w K mg base 1 "is_above" ["high", "low"] (spAbove K) := by
  refine def_of D sc_is_above bd_is_above (fun vs H Q E ⟨_, _, _, _, e, _⟩ => by rw [e]; rfl) ?_
  rintro f cdv A outer s H vs Q E hr ⟨u, v, o, n, rfl, hu, ⟨q, rfl, hq, _⟩, qq⟩
  refine ⟨_, pss_one (ps_ret (pe_or (pe_cmp (pc_isN (pv 0))) (pe_one (pe_cmpR (op_ltT hr.units0) (pv 1) (pv 0) (nomark _))))), ?_⟩
  refine ⟨u, rfl, decide (u = .non), rfl, ?_⟩
  cases o with
  | none =>
    cases (show u = .non from hu)
    exact iteT qq
  | some h =>
    obtain ⟨p, rfl, hp, _⟩ := hu
    refine iteF ⟨.ref q, rfl, .ref p, rfl, q, p, vI n, vI h, rfl, rfl, hq, hp, ?_⟩
    rw [vlt]
    exact qq
/-- a stretch that is one -/
abbrev SgOk (s : Sg) : Prop := ∀ h, s.2 = some h → s.1 < h
def spStretchQ (T : Tbl) (K : PySem.W.Frag) : Sp := fun vs H Q _ => ∃ v s, vs = [v] ∧ IsS (SqT K H) v s ∧ SgOk s ∧ ∀ H', Go T [] H H' → Q (.bl true) H'
theorem ok_is_stretch (G : Glo K mg) (D : Top K mg "is_stretch" s_is_stretch) (D1 : DefF P w K mg base 2 "is_version" ["thing"] (spIsVer T K)) : DefF P w K mg base 3 "is_stretch" ["thing"] (spStretchQ T K) := by
  refine def_of D sc_is_stretch bd_is_stretch (fun vs H Q E ⟨_, _, e, _⟩ => by rw [e]; rfl) ?_
  rintro f cdv A outer s H vs Q E hr ⟨v, ⟨n, o⟩, rfl, ⟨p, a, b, rfl, hp, ha, hb⟩, so, qq⟩
  refine ⟨_, pss_cons (ps_if (PW.pt (pw_or (pt_not (pt_val (pe_callB call_isi (by rfl) (G.free "isinstance" (by decide +kernel)) rfl (pa_cons (pv 0) (pa_cons (pe_bltn (v := .ty "tuple") (by rfl) (G.free "tuple" (by decide +kernel)) rfl rfl) pa_nil)))))
      (pw_or (pt_cmpR op_ne (pe_callB call_len (by rfl) (G.free "len" (by decide +kernel)) rfl (pa_cons (pv 0) pa_nil)) pe_int (nomark _))
        (pw_or1 (pt_not (pt_val (pe_D D1 hr (by rfl) (pa_cons (pe_ix ix_tup (pv 0) pe_int (fun _ _ => rfl)) pa_nil)))))))) pss_never pss_nil)
    (pss_one (ps_ret (pe_or (pe_cmp (pc_isN (pe_ix ix_tup (pv 0) pe_int (fun _ _ => rfl)))) (pe_one (pe_and (pe_D D1 hr (by rfl) (pa_cons (pe_ix ix_tup (pv 0) pe_int (fun _ _ => rfl)) pa_nil))
      (pe_one (pe_cmpR (op_ltT hr.units0) (pe_ix ix_tup (pv 0) pe_int (fun _ _ => rfl)) (pe_ix ix_tup (pv 0) pe_int (fun _ _ => rfl)) (nomark _)))))))), ?_⟩
  refine ⟨.ref p, rfl, .ref p, .ty "tuple", .type "tuple", .type "tuple", true, rfl, .ty "tuple", tyx_tup hp, kit_ty (by decide +kernel), true, rfl, iteF ?_⟩
  refine ⟨.ref p, rfl, .ref p, 2, rfl, .inr ⟨_, hp, rfl⟩, rfl, false, rfl, iteF ?_⟩
  refine ⟨.ref p, rfl, p, _, 0, a, rfl, rfl, hp, rfl, a, n, rfl, ha, fun H1 g1 => ⟨true, rfl, iteF ?_⟩⟩
  refine ⟨.ref p, rfl, p, _, 1, b, rfl, rfl, g1.sqt hp, rfl, _, rfl, ?_⟩
  cases o with
  | none =>
    cases (show b = .non from hb)
    exact iteT (qq _ g1)
  | some h =>
    obtain ⟨t, rfl, ht, hh⟩ := hb
    refine iteF ⟨.ref p, rfl, p, _, 1, .ref t, rfl, rfl, g1.sqt hp, rfl, .ref t, h, rfl, ⟨t, rfl, g1.sqt ht, hh⟩, fun H2 g2 => ⟨true, rfl, iteT ?_⟩⟩
    obtain ⟨z, rfl, hz, hn⟩ := ha
    have g := g1.trans g2
    refine ⟨.ref p, rfl, p, _, 0, .ref z, rfl, rfl, g.sqt hp, rfl, .ref p, rfl, p, _, 1, .ref t, rfl, rfl, g.sqt hp, rfl, z, t, vI n, vI h, rfl, rfl, g.sqt hz, g.sqt ht, ?_⟩
    rw [vlt, decide_eq_true (so h rfl)]
    exact qq _ g
end
end K3

namespace K3
open PySem PySem.Spec PyProof.Rows L2
theorem can_next : ∀ {R : Rg} {b i : Nat} {s s' : Sg}, Can b R → R[i]? = some s → R[i + 1]? = some s' → ∃ h, s.2 = some h ∧ h < s'.1
  | [], _, _, _, _, _, h, _ => by simp at h
  | (l, none) :: r, b, i, s, s', c, h, h' => by
    obtain ⟨_, rfl⟩ := c
    simp at h'
  | (l, some k) :: [], b, i, s, s', c, h, h' => by simp at h'
  | (l, some k) :: (x :: r), b, 0, s, s', c, h, h' => by
    simp at h h'
    subst h h'
    obtain ⟨_, _, c⟩ := c
    refine ⟨k, rfl, ?_⟩
    obtain ⟨x1, x2⟩ := x
    cases x2 with
    | none => exact c.1
    | some z => exact c.1
  | (l, some k) :: (x :: r), b, i + 1, s, s', c, h, h' => by
    obtain ⟨_, _, c⟩ := c
    exact can_next c (by simpa using h) (by simpa using h')
theorem all_true {l : List Nat} {ys : List V} (pr : Paired (fun _ y => y = V.bl true) l ys) : ys = (List.replicate l.length true).map V.bl ∧ (List.replicate l.length true).all id = true := by
  refine ⟨?_, by simp⟩
  rw [Paired.isMap (f := fun _ => V.bl true) pr, List.map_replicate]
  exact List.map_const' ..
theorem cut1 (xs : List V) : cutV xs (some 1) none = xs.drop 1 := by
  unfold cutV
  cases xs with
  | nil => simp
  | cons x r =>
    have e : HT.sIx (x :: r).length 0 (some 1) = 1 := by simp [HT.sIx]
    rw [e]
    simp [HT.sIx]
section
variable {P : Program} {w : World} {K : PySem.W.Frag} {mg : Str → Option Value} {base : Heap} {T : Tbl}
theorem AllS.len {Tp : TP} {vs : List V} {R : Rg} (h : AllS Tp vs R) : vs.length = R.length := (Paired.lenEq h).symm
theorem AllS.at {Tp : TP} {vs : List V} {R : Rg} {i : Nat} {x : V} (h : AllS Tp vs R) (e : vs[i]? = some x) : ∃ s, R[i]? = some s ∧ IsS Tp x s := Paired.at h e
def spIsRange (T : Tbl) (K : PySem.W.Frag) : Sp := fun vs H Q _ => ∃ v R, vs = [v] ∧ IsR (SqT K H) v R ∧ Can 0 R ∧ R.length < 1000 ∧ ∀ H', Go T [] H H' → Q (.bl true) H'
theorem ok_is_range (G : Glo K mg) (D : Top K mg "is_range" s_is_range) (D1 : DefF P w K mg base 3 "is_stretch" ["thing"] (spStretchQ T K)) : DefF P w K mg base 4 "is_range" ["thing"] (spIsRange T K) := by
  refine def_of D sc_is_range bd_is_range (fun vs H Q E ⟨_, _, e, _⟩ => by rw [e]; rfl) ?_
  rintro f cdv A outer s H vs Q E hr ⟨v, R, rfl, ⟨p, xs, rfl, hp, ax⟩, cR, lR, qq⟩
  refine ⟨_, pss_cons (ps_if (PW.pt (pw_or (pt_not (pt_val (pe_callB call_isi (by rfl) (G.free "isinstance" (by decide +kernel)) rfl (pa_cons (pv 0) (pa_cons (pe_bltn (v := .ty "tuple") (by rfl) (G.free "tuple" (by decide +kernel)) rfl rfl) pa_nil)))))
      (pw_or1 (pt_not (pt_val (pe_callB (cr_all rfl) (by rfl) (G.free "all" (by decide +kernel)) rfl (pa_cons (pe_lcW (own := [("part", 1)]) sc_is_range.nd (blkOk_by (N := n_is_range) (sc := defScope s_is_range) (by decide +kernel)) (pi_tup (pv 0))
        (fun s' H' C cl fp => pg_name (i := 1) sc_is_range.nd rfl (.inl rfl)) (fun s' H' C cl fp => pts_nil) (fun s' H' C cl fp => pe_D D1 hr (by rfl) (pa_cons (pv 1) pa_nil))) pa_nil))))))) pss_never pss_nil)
    (pss_one (ps_ret (pe_callB (cr_all rfl) (by rfl) (G.free "all" (by decide +kernel)) rfl (pa_cons (pe_lcW (own := [("one", 2), ("other", 3)]) sc_is_range.nd (blkOk_by (N := n_is_range) (sc := defScope s_is_range) (by decide +kernel))
      (RZ.pi_zipA (by rfl) (G.free "zip" (by decide +kernel)) (pa_cons (pv 0) (pa_cons (pe_slice sl_tupA (pv 0) (po_some pe_int) po_none) pa_nil)))
      (fun s' H' C cl fp => by exact pgT K 2 (pgs_cons (pg_name (i := 2) sc_is_range.nd rfl (.inl rfl)) (pgs_cons (pg_name (i := 3) sc_is_range.nd rfl (.inl rfl)) pgs_nil))) (fun s' H' C cl fp => pts_nil)
      (fun s' H' C cl fp => pe_and (pe_cmp (pc_notN (peT K (pv 2)))) (pe_one (pe_cmpR (ltT K hr.units0) (peT K (pv 2)) (peT K (pv 3)) (nomark _))))) pa_nil)))), ?_⟩
  refine ⟨.ref p, rfl, .ref p, .ty "tuple", .type "tuple", .type "tuple", true, rfl, .ty "tuple", tyx_tup hp, kit_ty (by decide +kernel), true, rfl, iteF ?_⟩
  refine ⟨.ref p, rfl, p, rfl, ⟨_, hp⟩, ?_⟩
  have hx : xs.length < 1000 := by rw [AllS.len ax]; exact lR
  refine lc_go (T := T) (M := []) (it_tup (xs := xs)) (fun _ => true) (fun _ y _ => y = .bl true) (fun _ _ => True) (Nat.lt_trans hx (by decide)) (fun b m => by cases m) (fun q H' hq g => g.sqt hp) (fun i y q H' H'' _ _ e => e) (fun i x H' Kc Kn hi g it kc _ => ?_) fun q ys H1 hq g1 hl pr => ?_
  · obtain ⟨z, hz, sz⟩ := AllS.at ax it
    refine ⟨rfl, lc_yes ⟨x, rfl, x, z, rfl, sz.go g, can_seg cR z (List.mem_of_getElem? hz), fun H4 g4 => kc _ _ rfl g4 rfl fun _ _ _ => trivial⟩⟩
  obtain ⟨e, et⟩ := all_true pr
  refine ⟨q, _, rfl, .of (by rw [← e]; exact hl), true, by rw [et], iteF ?_⟩
  have hp1 := g1.sqt hp
  -- the second part: zip(thing, thing[1:])
  have key : ∀ (b : Addr) (H2 : Hp), Go T [] H H2 → SqT K H2 b (xs.drop 1) → LcW (RZ.ItzT K p b) (gTup K 2 (gCons (gName 2) (gCons (gName 3) gNil))) tYes (tAndV (tNotN (tOp (rIxT K) (tVar 2) (tC (.int 1)))) (tOp (rLtT K) (tOp (rIxT K) (tVar 2) (tC (.int 1))) (tOp (rIxT K) (tVar 3) (tC (.int 0))))) [2, 3]
      (fun x H3 => tCB (rAll K) (fun _ H4 Q4 => Q4 [x] H4) (start n_is_range [V.ref p]) H3 Q) (start n_is_range [V.ref p]) H2 := by
    intro b H2 g2 hb
    refine lc_go (T := T) (M := []) (it_zipT (xs := xs) (ys := xs.drop 1)) (fun _ => true) (fun _ y _ => y = .bl true) (fun _ _ => True) (Nat.lt_of_le_of_lt (Nat.min_le_left ..) (Nat.lt_trans hx (by decide))) (fun b m => by cases m) (fun q H' hq g => ⟨g.sqt (g2.sqt hp), g.sqt hb⟩) (fun i y q H' H'' _ _ e => e) (fun i x H' Kc Kn hi g it kc _ => ?_) fun q ys H1 hq g1 hl pr => ?_
    · obtain ⟨c, u, v, rfl, hc, hu, hv⟩ := it
      obtain ⟨⟨n, o⟩, s1, ⟨p1, a1, b1, rfl, t1, ia, ib⟩⟩ := AllS.at ax hu
      obtain ⟨⟨n', o'⟩, s2, ⟨p2, a2, b2, rfl, t2, ia2, ib2⟩⟩ := AllS.at ax (by simpa [List.getElem?_drop, Nat.add_comm] using hv)
      obtain ⟨h, e1, e2⟩ := can_next cR s1 (by simpa [Nat.add_comm] using s2)
      cases (show o = some h from e1)
      obtain ⟨r1, rfl, hr1, _⟩ := ib
      obtain ⟨r2, rfl, hr2, _⟩ := ia2
      have gg := g2.trans g
      refine ⟨c, _, rfl, .of hc, rfl, _, _, rfl, _, _, rfl, rfl, rfl, lc_yes ?_⟩
      refine ⟨.ref p1, rfl, p1, _, 1, _, rfl, rfl, gg.sqt t1, rfl, true, rfl, iteT ?_⟩
      refine ⟨.ref p1, rfl, p1, _, 1, _, rfl, rfl, gg.sqt t1, rfl, .ref p2, rfl, p2, _, 0, _, rfl, rfl, gg.sqt t2, rfl, r1, r2, vI h, vI n', rfl, rfl, gg.sqt hr1, gg.sqt hr2, ?_⟩
      exact kc _ _ rfl Go.refl (by rw [vlt, decide_eq_true e2]) fun _ _ _ => trivial
    · obtain ⟨e, et⟩ := all_true pr
      refine ⟨q, _, rfl, .of (by rw [← e]; exact hl), ?_⟩
      rw [et]
      exact qq _ (g2.trans g1)
  refine ⟨.ref p, rfl, .ref p, rfl, 1, rfl, p, xs, rfl, hp1, fun hw => ?_, fun hw c hc => ?_⟩
  · have e0 : xs = [] := by
      cases xs with
      | nil => rfl
      | cons x r =>
        obtain ⟨h1, _⟩ := hw
        simp [HT.sIx] at h1
    subst e0
    exact ⟨p, p, [], [], rfl, .inr ⟨hp1, hp1, key p H1 g1 hp1⟩⟩
  · refine ⟨p, c, xs, xs.drop 1, rfl, .inr ⟨(Go.new (T := T) (M := []) hc).sqt hp1, .of (by rw [upd_same, cut1]), key c _ (g1.trans (Go.new hc)) (.of (by rw [upd_same, cut1]))⟩⟩
end
end K3

namespace K3
open PySem PySem.Spec PyProof.Rows L2
section
variable {P : Program} {w : World} {K : PySem.W.Frag} {mg : Str → Option Value} {base : Heap} {T : Tbl}
/-- what is answered: a range, new or old -/
abbrev GiveR (T : Tbl) (K : PySem.W.Frag) (H : Hp) (R : Rg) (Q : VK) : Prop := ∀ v H', Go T [] H H' → IsR (SqT K H') v R → Q v H'
def spNone (T : Tbl) (K : PySem.W.Frag) : Sp := fun vs H Q _ => vs = [] ∧ GiveR T K H [] Q
theorem ok_none_of (D : Top K mg "none_of" s_none_of) : DefF P w K mg base 1 "none_of" [] (spNone T K) := by
  refine def_of D sc_none_of bd_none_of (fun vs H Q E ⟨e, _⟩ => by rw [e]; rfl) ?_
  rintro f cdv A outer s H vs Q E hr ⟨rfl, qq⟩
  refine ⟨_, pss_one (ps_ret (pe_tup pa_nil)), ?_⟩
  exact ⟨by decide, fun p hp => qq _ _ (Go.new hp) ⟨p, [], rfl, .of upd_same, .nil⟩⟩
def spAll (T : Tbl) (K : PySem.W.Frag) : Sp := fun vs H Q _ => vs = [] ∧ GiveR T K H [(0, none)] Q
theorem isV0 {H : Hp} {a : Addr} (h : SqT K H a [.int 0, .int 0, .int 0]) : IsV (SqT K H) (.ref a) 0 := ⟨a, rfl, h, by decide⟩
theorem ok_all_of (G : Glo K mg) (D : Top K mg "all_of" s_all_of) : DefF P w K mg base 1 "all_of" [] (spAll T K) := by
  refine def_of D sc_all_of bd_all_of (fun vs H Q E ⟨e, _⟩ => by rw [e]; rfl) ?_
  rintro f cdv A outer s H vs Q E hr ⟨rfl, qq⟩
  obtain ⟨a, hm, ha⟩ := G.least
  refine ⟨_, pss_one (ps_ret (pe_tup (pa_cons (pe_tup (pa_cons (pe_glob (v := .ref a) (by rfl) hm rfl) (pa_cons pe_non pa_nil))) pa_nil))), ?_⟩
  refine ⟨by show 2 ≤ sizeLine; decide, fun p hp => ⟨by show 1 ≤ sizeLine; decide, fun c hc => ?_⟩⟩
  have g : Go T [] H (upd H p (.tup [.ref a, .non])) := Go.new hp
  have g2 : Go T [] (upd H p (.tup [.ref a, .non])) (upd (upd H p (.tup [.ref a, .non])) c (.tup [.ref p])) := Go.new hc
  exact qq _ _ (g.trans g2) ⟨c, _, rfl, .of upd_same, .cons ⟨p, _, _, rfl, g2.sqt (.of upd_same), isV0 (ha _), rfl⟩ .nil⟩
def stR (n : Nat) (o : Option Nat) : Rg := if aboveB o n = true then [(n, o)] else []
def spStretch (T : Tbl) (K : PySem.W.Frag) : Sp := fun vs H Q _ => ∃ u v n o, vs = [u, v] ∧ IsV (SqT K H) u n ∧ IsE (SqT K H) v o ∧ GiveR T K H (stR n o) Q
theorem ok_stretch (D : Top K mg "stretch" s_stretch) (D1 : DefF P w K mg base 1 "is_above" ["high", "low"] (spAbove K)) : DefF P w K mg base 2 "stretch" ["low", "high"] (spStretch T K) := by
  refine def_of D sc_stretch bd_stretch (fun vs H Q E ⟨_, _, _, _, e, _⟩ => by rw [e]; rfl) ?_
  rintro f cdv A outer s H vs Q E hr ⟨u, v, n, o, rfl, hu, hv, qq⟩
  refine ⟨_, pss_one (ps_ret (pe_ifExp (pt_val (pe_D D1 hr (by rfl) (pa_cons (pv 1) (pa_cons (pv 0) pa_nil)))) (pe_tup (pa_cons (pe_tup (pa_cons (pv 0) (pa_cons (pv 1) pa_nil))) pa_nil)) (pe_tup pa_nil))), ?_⟩
  refine ⟨v, rfl, u, rfl, v, u, o, n, rfl, hv, hu, aboveB o n, rfl, ?_⟩
  unfold stR at qq
  cases hb : aboveB o n with
  | true =>
    rw [hb, if_pos rfl] at qq
    refine iteT ⟨u, rfl, v, rfl, by show 2 ≤ sizeLine; decide, fun p hp => ⟨by show 1 ≤ sizeLine; decide, fun c hc => ?_⟩⟩
    have g : Go T [] H (upd H p (.tup [u, v])) := Go.new hp
    have g2 : Go T [] (upd H p (.tup [u, v])) (upd (upd H p (.tup [u, v])) c (.tup [.ref p])) := Go.new hc
    have g3 := g.trans g2
    exact qq _ _ g3 ⟨c, _, rfl, .of upd_same, .cons ⟨p, _, _, rfl, g2.sqt (.of upd_same), hu.go g3, hv.go g3⟩ .nil⟩
  | false =>
    rw [hb, if_neg (by decide)] at qq
    exact iteF ⟨by decide, fun p hp => qq _ _ (Go.new hp) ⟨p, [], rfl, .of upd_same, .nil⟩⟩
/-- raised, where the number at the place is not the last -/
def raisedL (j n : Nat) : List Int := (vI n).take j ++ ((vI n).getD j 0 + 1) :: List.replicate (2 - j) 0
def spRaised (T : Tbl) (K : PySem.W.Frag) : Sp := fun vs H Q _ => ∃ v n j m, vs = [v, .int ((j : Nat) : Int)] ∧ IsV (SqT K H) v n ∧ j < 3 ∧ (vI n).getD j 0 ≠ 999999 ∧ raisedL j n = vI m ∧ m < MX ∧ ∀ v H', Go T [] H H' → IsV (SqT K H') v m → Q v H'
theorem ok_raised (G : Glo K mg) (D : Top K mg "raised" s_raised) : DefF P w K mg base 1 "raised" ["version", "place"] (spRaised T K) := by
  refine def_of D sc_raised bd_raised (fun vs H Q E ⟨_, _, _, _, e, _⟩ => by rw [e]; rfl) ?_
  rintro f cdv A outer s H vs Q E hr ⟨v, n, j, m, rfl, ⟨p, rfl, hp, hn⟩, hj, h9, hm2, hm, qq⟩
  obtain ⟨tm, hmm⟩ := G.most
  refine ⟨_, pss_cons (ps_if (pt_cmpR op_eq (peIx (ixT K) (pv 0) (pv 1)) (pe_glob (v := .int 999999) (by rfl) hmm ⟨tm, rfl⟩) (nomark _)) pss_never pss_nil)
    (pss_one (ps_ret (pe_tup (paStar K (pe_slice (slT K) (pv 0) po_none (po_some (pv 1))) (pa_cons (pe_op op_add (peIx (ixT K) (pv 0) (pv 1)) pe_int)
      (paStar K (pe_op op_rep (pe_lst (pa_cons pe_int pa_nil)) (pe_op op_sub pe_int (pv 1))) pa_nil)))))), ?_⟩
  have hz : atI ((vI n).map V.int) (j : Int) = some (.int ((vI n).getD j 0)) := by
    match j, hj with
    | 0, _ => rfl
    | 1, _ => rfl
    | 2, _ => rfl
  refine ⟨.ref p, rfl, .int j, rfl, p, _, _, _, rfl, rfl, hp, hz, rfl, decide (V.int ((vI n).getD j 0) = .int 999999), rfl, ?_⟩
  rw [decide_eq_false (fun e => h9 (by injection e))]
  refine iteF ⟨.ref p, rfl, .int j, rfl, j, rfl, p, _, rfl, hp, fun hw => ?_, fun _ a ha => ?_⟩
  · exfalso
    obtain ⟨_, h2⟩ := hw
    match j, hj, h2 with
    | 0, _, h2 => exact absurd h2 (show ¬ (0 : Nat) = 3 by decide)
    | 1, _, h2 => exact absurd h2 (show ¬ (1 : Nat) = 3 by decide)
    | 2, _, h2 => exact absurd h2 (show ¬ (2 : Nat) = 3 by decide)
  · have g : Go T [] H (upd H a (.tup (cutV ((vI n).map V.int) none (some (j : Int))))) := Go.new ha
    refine ⟨a, _, rfl, .inl (.of upd_same), .ref p, rfl, .int j, rfl, p, _, _, _, rfl, rfl, g.sqt hp, hz, _, _, rfl, rfl, by show 1 ≤ sizeLine; decide, fun b hb => ?_⟩
    have g2 := Go.new (T := T) (M := []) (o := .lst [V.int 0]) hb
    refine ⟨.int j, rfl, 2, (j : Int), rfl, rfl, b, 2 - (j : Int), [.int 0], rfl, rfl, upd_same, by omega, by omega, by rw [sizeLine_eq]; simp; omega, fun c hc => ?_⟩
    have g3 := Go.new (T := T) (M := []) (o := .lst (List.replicate (2 - (j : Int)).toNat [V.int 0]).flatten) hc
    refine ⟨c, _, rfl, .inr (.of upd_same), ?_, fun d hd => ?_⟩
    · match j, hj with
      | 0, _ => show 3 ≤ sizeLine; decide
      | 1, _ => show 3 ≤ sizeLine; decide
      | 2, _ => show 3 ≤ sizeLine; decide
    · refine qq _ _ (((g.trans g2).trans g3).trans (Go.new hd)) ⟨d, rfl, .of ?_, hm⟩
      rw [upd_same, ← hm2]
      match j, hj with
      | 0, _ => rfl
      | 1, _ => rfl
      | 2, _ => rfl
end
end K3

namespace K3
open PySem PySem.Spec PyProof.Rows L2
section
variable {P : Program} {w : World} {K : PySem.W.Frag} {mg : Str → Option Value} {base : Heap} {T : Tbl}
def spAfter (T : Tbl) (K : PySem.W.Frag) : Sp := fun vs H Q _ => ∃ v n, vs = [v] ∧ IsV (SqT K H) v n ∧ ∀ v H', Go T [] H H' → IsE (SqT K H') v (nxt n) → Q v H'
theorem ok_after (G : Glo K mg) (D : Top K mg "after" s_after) (D1 : DefF P w K mg base 1 "raised" ["version", "place"] (spRaised T K)) : DefF P w K mg base 2 "after" ["version"] (spAfter T K) := by
  refine def_of D sc_after bd_after (fun vs H Q E ⟨_, _, e, _⟩ => by rw [e]; rfl) ?_
  rintro f cdv A outer s H vs Q E hr ⟨v, n, rfl, ⟨p, rfl, hp, hn⟩, qq⟩
  obtain ⟨tm, hm⟩ := G.most
  refine ⟨_, pss_cons (ps_forW PassesOwn.never (pi_tup (pe_tup (pa_cons pe_int (pa_cons pe_int (pa_cons pe_int pa_nil))))) (pg_name (i := 1) sc_after.nd rfl (.inl rfl))
      (pss_one (ps_if (pt_cmpR op_lt (peIx (ixT K) (pv 0) (pv 1)) (pe_glob (v := .int 999999) (by rfl) hm ⟨tm, rfl⟩) (nomark _)) (pss_one (ps_ret (pe_D D1 hr (by rfl) (pa_cons (pv 0) (pa_cons (pv 1) pa_nil))))) pss_nil)))
    (pss_one (ps_ret pe_non)), ?_⟩
  refine ⟨by show 3 ≤ sizeLine; decide, fun a ha => ⟨a, rfl, ⟨_, .of upd_same⟩, ?_⟩⟩
  have g0 : Go T [] H (upd H a (.tup [.int 2, .int 1, .int 0])) := Go.new ha
  unfold MX at hn
  have hn' : n / 1000000000000 ≤ 999999 := by omega
  refine for_go (T := T) (it_tup (xs := [.int 2, .int 1, .int 0])) (fun i σ H' => Go T [] (upd H a (.tup [.int 2, .int 1, .int 0])) H' ∧ (∃ y, σ = [some (.ref p), y]) ∧ (1 ≤ i → VC n = 999999) ∧ (2 ≤ i → VB n = 999999) ∧ (3 ≤ i → VA n = 999999))
    ⟨Go.refl, ⟨_, rfl⟩, fun h => by omega, fun h => by omega, fun h => by omega⟩ (fun i σ H' _ h => h.1.sqt (.of upd_same)) ?_ ?_
  · rintro i x σ H1 H2 hi ⟨g, ⟨y, rfl⟩, c1, c2, c3⟩ g2 it
    have gg := (g0.trans g).trans g2
    have hp2 := gg.sqt hp
    have ex : ∃ j : Nat, x = .int ((j : Nat) : Int) ∧ j = 2 - i ∧ i < 3 := by
      match i, hi, it with
      | 0, _, it => exact ⟨2, (Option.some.inj it).symm, rfl, by omega⟩
      | 1, _, it => exact ⟨1, (Option.some.inj it).symm, rfl, by omega⟩
      | 2, _, it => exact ⟨0, (Option.some.inj it).symm, rfl, by omega⟩
    obtain ⟨j, rfl, ej, hi3⟩ := ex
    have hz : atI ((vI n).map V.int) (j : Int) = some (.int ((vI n).getD j 0)) := by
      match i, hi3, ej with
      | 0, _, ej => subst ej; rfl
      | 1, _, ej => subst ej; rfl
      | 2, _, ej => subst ej; rfl
    refine ⟨.ref p, rfl, .int j, rfl, p, _, _, _, rfl, rfl, hp2, hz, _, _, rfl, rfl, _, rfl, ?_⟩
    by_cases hb : (vI n).getD j 0 < 999999
    · rw [decide_eq_true hb]
      have fin : ∀ m, nxt n = some m → raisedL j n = vI m → spRaised T K ([.ref p, .int j] ++ []) H2 Q E0 := fun m h1 h2 => by
        refine ⟨.ref p, n, j, m, rfl, ⟨p, rfl, hp2, hn⟩, by omega, by omega, h2, ?_, fun v H3 g3 hv => qq v H3 (gg.trans g3) ?_⟩
        · unfold nxt at h1
          split at h1
          · cases h1
            assumption
          · cases h1
        · rw [h1]
          exact hv
      refine iteT ⟨.ref p, rfl, .int j, rfl, fin (n + 1) ?_ ?_⟩
      · unfold nxt
        rw [if_pos]
        unfold MX
        match i, hi3, ej, hb, c1, c2 with
        | 0, _, ej, hb, c1, c2 =>
          subst ej
          have hb : VC n < 999999 := hb
          simp only [VC] at hb
          omega
        | 1, _, ej, hb, c1, c2 =>
          subst ej
          have hb : VB n < 999999 := hb
          have c1 := c1 (by omega)
          simp only [VB, VC] at hb c1
          omega
        | 2, _, ej, hb, c1, c2 =>
          subst ej
          have hb : VA n < 999999 := hb
          have c1 := c1 (by omega)
          have c2 := c2 (by omega)
          simp only [VA, VB, VC] at hb c1 c2
          omega
      · match i, hi3, ej, hb, c1, c2 with
        | 0, _, ej, hb, c1, c2 =>
          subst ej
          have hb : VC n < 999999 := hb
          show [VA n, VB n, VC n + 1] = [VA (n + 1), VB (n + 1), VC (n + 1)]
          simp only [VA, VB, VC] at hb ⊢
          simp only [List.cons.injEq, and_true]
          omega
        | 1, _, ej, hb, c1, c2 =>
          subst ej
          have hb : VB n < 999999 := hb
          have c1 := c1 (by omega)
          show [VA n, VB n + 1, 0] = [VA (n + 1), VB (n + 1), VC (n + 1)]
          simp only [VA, VB, VC] at hb c1 ⊢
          simp only [List.cons.injEq, and_true]
          omega
        | 2, _, ej, hb, c1, c2 =>
          subst ej
          have hb : VA n < 999999 := hb
          have c1 := c1 (by omega)
          have c2 := c2 (by omega)
          show [VA n + 1, 0, 0] = [VA (n + 1), VB (n + 1), VC (n + 1)]
          simp only [VA, VB, VC] at hb c1 c2 ⊢
          simp only [List.cons.injEq, and_true]
          omega
    · rw [decide_eq_false hb]
      refine iteF ⟨g.trans g2, ⟨_, rfl⟩, fun _ => ?_, fun _ => ?_, fun _ => ?_⟩
      · match i, hi3, ej, hb, c1, c2 with
        | 0, _, ej, hb, c1, c2 =>
          subst ej
          have hb : ¬ VC n < 999999 := hb
          simp only [VC] at hb ⊢
          omega
        | 1, _, ej, hb, c1, c2 => exact c1 (by omega)
        | 2, _, ej, hb, c1, c2 => exact c1 (by omega)
      · match i, hi3, ej, hb, c1, c2 with
        | 0, _, ej, hb, c1, c2 => omega
        | 1, _, ej, hb, c1, c2 =>
          subst ej
          have hb : ¬ VB n < 999999 := hb
          simp only [VB] at hb ⊢
          omega
        | 2, _, ej, hb, c1, c2 => exact c2 (by omega)
      · match i, hi3, ej, hb, c1, c2 with
        | 0, _, ej, hb, c1, c2 => omega
        | 1, _, ej, hb, c1, c2 => omega
        | 2, _, ej, hb, c1, c2 =>
          subst ej
          have hb : ¬ VA n < 999999 := hb
          simp only [VA] at hb ⊢
          omega
  · rintro σ H1 ⟨g, ⟨y, rfl⟩, c1, c2, c3⟩
    refine qq _ _ (g0.trans g) ?_
    have c1 := c1 (by show 1 ≤ 3; omega)
    have c2 := c2 (by show 2 ≤ 3; omega)
    have c3 := c3 (by show 3 ≤ 3; omega)
    simp only [VA, VB, VC] at c1 c2 c3
    unfold nxt MX
    rw [if_neg (by omega)]
    rfl
def spJust (T : Tbl) (K : PySem.W.Frag) : Sp := fun vs H Q _ => ∃ v n, vs = [v] ∧ IsV (SqT K H) v n ∧ GiveR T K H [(n, nxt n)] Q
theorem ok_just (D : Top K mg "just" s_just) (D1 : DefF P w K mg base 2 "stretch" ["low", "high"] (spStretch T K)) (D2 : DefF P w K mg base 2 "after" ["version"] (spAfter T K)) : DefF P w K mg base 3 "just" ["version"] (spJust T K) := by
  refine def_of D sc_just bd_just (fun vs H Q E ⟨_, _, e, _⟩ => by rw [e]; rfl) ?_
  rintro f cdv A outer s H vs Q E hr ⟨v, n, rfl, hv, qq⟩
  refine ⟨_, pss_one (ps_ret (pe_D D1 hr (by rfl) (pa_cons (pv 0) (pa_cons (pe_D D2 hr (by rfl) (pa_cons (pv 0) pa_nil)) pa_nil)))), ?_⟩
  refine ⟨v, rfl, v, rfl, v, n, rfl, hv, fun u H1 g1 hu => ⟨v, u, n, nxt n, rfl, hv.go g1, hu, fun r H2 g2 hr2 => qq r H2 (g1.trans g2) ?_⟩⟩
  unfold stR at hr2
  rw [aboveB_nxt, if_pos rfl] at hr2
  exact hr2
def spLeast (T : Tbl) (K : PySem.W.Frag) : Sp := fun vs H Q _ => ∃ v R, vs = [v] ∧ IsR (SqT K H) v R ∧ ∀ v H', Go T [] H H' → IsE (SqT K H') v (R.head?.map (·.1)) → Q v H'
theorem ok_least_in (D : Top K mg "least_in" s_least_in) : DefF P w K mg base 1 "least_in" ["one"] (spLeast T K) := by
  refine def_of D sc_least_in bd_least_in (fun vs H Q E ⟨_, _, e, _⟩ => by rw [e]; rfl) ?_
  rintro f cdv A outer s H vs Q E hr ⟨v, R, rfl, hv, qq⟩
  refine ⟨_, pss_one (ps_ret (pe_ifExp (pt_cmpR (eqD K hr.units) (pv 0) (pe_tup pa_nil) (nomark _)) pe_non (peT K (peT K (pv 0))))), ?_⟩
  refine ⟨v, rfl, by decide, fun a ha => ⟨rngD R, rngD [], ?_, ?_, shaped_rng R, shaped_rng [], _, rfl, ?_⟩⟩
  · exact (hv.go (T := T) (M := []) (Go.new ha)).dp
  · exact .tup (.of upd_same) .nil
  have g : Go T [] H (upd H a (.tup [])) := Go.new ha
  rw [rngD_eqv]
  cases R with
  | nil => exact iteT (qq _ _ g rfl)
  | cons z R =>
    rw [decide_eq_false (by simp)]
    obtain ⟨p, vs, rfl, hp, av⟩ := hv
    cases av with
    | cons hz r =>
      obtain ⟨q, x, y, rfl, hq, hx, hy⟩ := hz
      exact iteF ⟨.ref p, rfl, p, _, 0, _, rfl, rfl, g.sqt hp, at0, q, _, 0, _, rfl, rfl, g.sqt hq, rfl, qq _ _ g (hx.go g)⟩
end
end K3

/-! sorted(xs, key=f), f a lambda that gives a version (a tuple of three ints) -/
namespace K3
open PySem PySem.Spec PyProof.Rows L2
/-- the value is the tuple of the version n -/
def KT (h : Heap) (v : Value) (n : Nat) : Prop := ∃ (a : Addr) (o : Obj) (t u r : Tok) (k : Nat), v = .ref a ∧ h.get? a = some o ∧ o.cls = .type "tuple" ∧ o.data = .seq #[.int (VA n) t, .int (VB n) u, .int (VC n) r] k
theorem KT.uniq {h : Heap} {v : Value} {n m : Nat} (x : KT h v n) (y : KT h v m) : n = m := by
  obtain ⟨a, o, t, u, r, k, rfl, e1, _, d1⟩ := x
  obtain ⟨b, o', t', u', r', k', eb, e2, _, d2⟩ := y
  cases eb
  rw [e1] at e2
  cases e2
  rw [d1] at d2
  simp only [Data.seq.injEq, Array.mk.injEq, List.cons.injEq, Value.int.injEq, and_true, VA, VB, VC] at d2
  have h1 := ver_parts n
  have h2 := ver_parts m
  omega
theorem KT.keeps {h h' : Heap} {v : Value} {n : Nat} (x : KT h v n) (k : ∀ b o, h.get? b = some o → o.cls = .type "tuple" → h'.get? b = some o) : KT h' v n := by
  obtain ⟨a, o, t, u, r, j, e, e1, c1, d1⟩ := x
  exact ⟨a, o, t, u, r, j, e, k a o e1 c1, c1, d1⟩
open Classical in
noncomputable def kN (h : Heap) (v : Value) : Nat := if e : ∃ n, KT h v n then Classical.choose e else 0
theorem kN_eq {h : Heap} {v : Value} {n : Nat} (x : KT h v n) : kN h v = n := by
  unfold kN
  rw [dif_pos ⟨n, x⟩]
  exact (Classical.choose_spec (⟨n, x⟩ : ∃ n, KT h v n)).uniq x
noncomputable def ltK (h : Heap) (p q : Keyed) : Bool := decide (kN h p.1 < kN h q.1)
theorem ltK_swo (h : Heap) : SrtO.Swo (ltK h) := by
  refine ⟨fun x y a => ?_, fun x y z a b => ?_⟩
  · unfold ltK at a ⊢
    rw [decide_eq_true_eq] at a
    rw [decide_eq_false_iff_not]
    omega
  · unfold ltK at a b ⊢
    rw [decide_eq_false_iff_not] at a b ⊢
    omega
theorem paired_perm {α β : Type} {R : α → β → Prop} : ∀ {l l' : List α}, l'.Perm l → ∀ {m : List β}, Paired R l m → ∃ m', m'.Perm m ∧ Paired R l' m' := by
  intro l l' hp
  induction hp with
  | nil => exact fun h => ⟨_, .refl _, h⟩
  | cons x _ ih =>
    intro m h
    cases h with
    | cons r t =>
      obtain ⟨m', p, q⟩ := ih t
      exact ⟨_, p.cons _, .cons r q⟩
  | swap x y l =>
    intro m h
    cases h with
    | cons r t =>
      cases t with
      | cons r2 t2 => exact ⟨_, .swap _ _ _, .cons r2 (.cons r t2)⟩
  | trans _ _ ih1 ih2 =>
    intro m h
    obtain ⟨m1, p1, q1⟩ := ih2 h
    obtain ⟨m2, p2, q2⟩ := ih1 q1
    exact ⟨m2, p2.trans p1, q2⟩
theorem paired_pw {α β : Type} {R : α → β → Prop} {S : α → α → Prop} {U : β → β → Prop} (f : ∀ a b c d, R a c → R b d → S a b → U c d) : ∀ {l : List α} {m : List β}, Paired R l m → l.Pairwise S → m.Pairwise U
  | _, _, .nil, _ => .nil
  | _, _, .cons r t, h => by
    obtain ⟨h1, h2⟩ := List.pairwise_cons.mp h
    refine List.pairwise_cons.mpr ⟨fun y hy => ?_, paired_pw f t h2⟩
    obtain ⟨i, hi⟩ := List.mem_iff_getElem?.mp hy
    have fl : ∀ {l : List α} {m : List β}, Paired R l m → ∀ {i : Nat} {y : β}, m[i]? = some y → ∃ x, l[i]? = some x ∧ R x y := by
      intro l m p
      induction p with
      | nil => intro i y e; simp at e
      | cons a _ ih =>
        intro i y e
        cases i with
        | zero =>
          simp at e
          subst e
          exact ⟨_, rfl, a⟩
        | succ i =>
          obtain ⟨x, e1, r⟩ := ih (i := i) (by simpa using e)
          exact ⟨x, by simpa using e1, r⟩
    obtain ⟨x, e1, rx⟩ := fl t hi
    exact f _ _ _ _ r rx (h1 x (List.mem_of_getElem? e1))
section
variable {prog : Program} {w : World} {A : Around} {s : Shared}
theorem cmpK : SrtO.Cmp prog w A s (tuples' true) (fun p => ∃ n, KT s.heap p.1 n) (ltK s.heap) := by
  intro p q ⟨n, hp⟩ ⟨m, hq⟩
  unfold ltK
  rw [kN_eq hp, kN_eq hq]
  obtain ⟨a, o, t, u, r, k, e, ho, hc, hd⟩ := hp
  obtain ⟨a', o', t', u', r', k', e', ho', hc', hd'⟩ := hq
  rw [e, e']
  refine PySem.W.kat_lt ho hd ho' hd' ?_
  have L := vlt n m
  have L : (if VA n = VA m then (if VB n = VB m then (if VC n = VC m then false else decide (VC n < VC m)) else decide (VB n < VB m)) else decide (VA n < VA m)) = decide (n < m) := L
  rw [← L]
  show PySem.W.KatLex prog w A true (decide (3 < 3)) _ [(.int (VA n) t, .int (VA m) t'), (.int (VB n) u, .int (VB m) u'), (.int (VC n) r, .int (VC m) r')] 0 s
  refine PySem.W.kat_cons (SeqAt.EqAt.int_int (VA n) t (VA m) t' prog w _ _ ?_)
  refine PySem.W.kat_go (fun e1 => ?_) (fun e1 => ?_)
  · have ex : VA n = VA m := by simpa using e1
    rw [if_pos ex]
    refine PySem.W.kat_yes (PySem.W.kat_cons (SeqAt.EqAt.int_int (VB n) u (VB m) u' prog w _ _ ?_))
    refine PySem.W.kat_go (fun e2 => ?_) (fun e2 => ?_)
    · have ey : VB n = VB m := by simpa using e2
      rw [if_pos ey]
      refine PySem.W.kat_yes (PySem.W.kat_cons (SeqAt.EqAt.int_int (VC n) r (VC m) r' prog w _ _ ?_))
      refine PySem.W.kat_go (fun e3 => ?_) (fun e3 => ?_)
      · have ez : VC n = VC m := by simpa using e3
        rw [if_pos ez]
        exact PySem.W.kat_yes (PySem.W.kat_nil ⟨rfl, rfl⟩)
      · have ez : ¬ VC n = VC m := by simpa using e3
        rw [if_neg ez]
        exact PySem.W.kat_no (PySem.W.kat_one _ _ (PyProof.Rows.lt_int ⟨rfl, rfl⟩))
    · have ey : ¬ VB n = VB m := by simpa using e2
      rw [if_neg ey]
      exact PySem.W.kat_no (PySem.W.kat_one _ _ (PyProof.Rows.lt_int ⟨rfl, rfl⟩))
  · have ex : ¬ VA n = VA m := by simpa using e1
    rw [if_neg ex]
    exact PySem.W.kat_no (oneLt_int ⟨rfl, rfl⟩)
theorem firstsK {h : Heap} : ∀ {ks : List Value}, (∀ v ∈ ks, ∃ n, KT h v n) → ∃ fs : List Value, PySem.W.KatTups h ks fs ∧ fs.length = ks.length ∧ ∀ f ∈ fs, ∃ x t, f = Value.int x t
  | [], _ => ⟨[], PySem.W.KatTups.nil, rfl, fun _ hm => by simp at hm⟩
  | v :: ks, hp => by
    obtain ⟨fs, h1, h2, h3⟩ := firstsK (ks := ks) fun v' hm => hp v' (List.mem_cons_of_mem _ hm)
    obtain ⟨n, a, o, t, u, r, k, e, ho, hc, hd⟩ := hp v (List.mem_cons_self ..)
    subst e
    refine ⟨.int (VA n) t :: fs, PySem.W.KatTups.cons ho hc hd rfl h1, by rw [List.length_cons, List.length_cons, h2], fun f hm => ?_⟩
    rcases List.mem_cons.mp hm with rfl | hm
    · exact ⟨_, t, rfl⟩
    · exact h3 f hm
theorem kindK {ks : List Value} {Q : SortKind → Shared → Prop} {E : Value → Shared → Prop} (h0 : 0 < ks.length) (hp : ∀ v ∈ ks, ∃ n, KT s.heap v n) (hq : Q (tuples' true) s) : wpAny (model prog w) A (keyKind' ks.toArray) Q E s := by
  obtain ⟨fs, h1, h2, h3⟩ := firstsK hp
  refine PySem.W.kat_kind (T := .type "int") h1 (by omega) (fun f hm => ?_) (by rfl) ?_
  · obtain ⟨x, t, rfl⟩ := h3 f hm
    exact PySem.W.Looks.now
  · have e : (Value.type "int" != Value.type "tuple") = true := by first | decide +kernel | rfl | decide
    rw [e]
    exact hq
end
end K3

namespace K3
open PySem PySem.Spec PyProof.Rows L2
section
variable {X : Cx} {pins : List (Addr × Obj)} {σ : L2.St} {H : Hp} {s : Shared} {k : Nat} {f : Addr} {F : LF} {ps fr : List Str} {sp : List (Option V) → Sp} {ws : List (Option V)}
/-- the key is asked, two rooms deeper -/
theorem key_call {Q : VK} {us : List Value} {vs : List V} (Fn : LOk X.prog X.w X.K X.mg X.base CX0 k f F ps fr sp) (hr : Room (k + 2) X.A) (I : Inv X pins σ H s) (hf : H f = some (LamO f F)) (hc : H F.c = some (LamX.CodeO F.c F.qual))
    (C : NdefX.CellsAt F.cl fr ws s.heap H) (r : Vals vs us) (q : sp ws vs H Q E0) : wpAny (model X.prog X.w) X.A.in1.in1 (call (.ref f) us) (EP X pins σ Q) (fun _ _ => False) s := by
  refine wpAny_call (codeAny_mono (Fn.run X.A.in1.in1 X.stack s H us vs ws Q E0 hr.in1.in1 I.env0.in1.in1 hf hc C r q) fun r s' hq => ?_)
  cases r with
  | error e => exact False.elim hq
  | ok fl =>
    cases fl with
    | ret u => exact I.after hq
    | next => exact False.elim hq
    | brk => exact False.elim hq
    | cont => exact False.elim hq
/-- an object that stays as it is -/
def ExO (a : Addr) (o : Obj) : HO := .ext fun h => h.get? a = some o
theorem exO_at {P : Program} {w : World} {h : Heap} {a : Addr} {o : Obj} (hok : HOk P w H h) (e : H a = some (ExO a o)) : h.get? a = some o := (hok a _ e).1
theorem exO_ok {P : Program} {w : World} {h : Heap} {a : Addr} {o : Obj} (e : h.get? a = some o) : ObjOk P w H h a (ExO a o) := ⟨e, ⟨o, e⟩, fun h1 h2 x st => st _ x⟩
theorem exO_ne {a : Addr} {o : Obj} {u : HO} (h : ∀ φ, u ≠ .ext φ) : ExO a o ≠ u := fun e => h _ e.symm
/-- what the sort gives: the items with their versions in order -/
def rSortV (K : PySem.W.Frag) (T : Tbl) (fr : List Str) (sp : List (Option V) → Sp) (ws : List (Option V)) (f : Addr) (F : LF) : List V → List V → Hp → VK → Prop := fun xs zs H Q =>
  ∃ (a : Addr) (ys : List V) (ns : List Nat) (ks : List V), xs = [.ref a] ∧ zs = [.ref f] ∧ (SqL K H a ys ∨ SqT K H a ys) ∧ Paired (IsV (SqT K H)) ks ns ∧ ks.length = ys.length ∧ H f = some (LamO f F) ∧ H F.c = some (LamX.CodeO F.c F.qual) ∧
    (∀ h H', NdefX.CellsAt F.cl fr ws h H') ∧ (∀ (H' : Hp) (i : Nat) (y v : V), (∀ b o, H b = some o → H' b = some o) → ys[i]? = some y → ks[i]? = some v → ∀ R : VK, R v H' → sp ws [y] H' R E0) ∧
    ∀ (ms : List (V × Nat)) (p : Addr) (H' : Hp), ms.Perm (ys.zip ns) → ms.Pairwise (fun x y => x.2 ≤ y.2) → H p = none → Go T [] H H' → H' p = some (.lst (ms.map (·.1))) → Q (.ref p) H'
abbrev PairK (h : Heap) (p : Keyed) (q : V × Nat) : Prop := KT h p.1 q.2 ∧ RelV q.1 p.2
theorem kt_all (I : Inv X pins σ H s) : ∀ {ks : List V} {ns : List Nat} {us : List Value}, Paired (IsV (SqT X.K H)) ks ns → Vals ks us → Paired (KT s.heap) us ns
  | _, _, _, .nil, .nil => .nil
  | _, _, _, .cons hx t, .cons r rt => by
    refine .cons ?_ (kt_all I t rt)
    obtain ⟨p, rfl, hp, _⟩ := hx
    obtain rfl := r
    obtain ⟨its, rv, ⟨o, e1, e2, m, e3⟩, _⟩ := I.tuple hp
    cases rv with
    | cons r1 rv =>
      cases rv with
      | cons r2 rv =>
        cases rv with
        | cons r3 rv =>
          cases rv
          obtain ⟨t1, rfl⟩ := r1
          obtain ⟨t2, rfl⟩ := r2
          obtain ⟨t3, rfl⟩ := r3
          exact ⟨p, o, t1, t2, t3, m, rfl, e1, e2, e3⟩
theorem pair_zip {h : Heap} : ∀ {us : List Value} {ns : List Nat} {ys : List V} {vs : List Value}, Paired (KT h) us ns → Vals ys vs → us.length = vs.length → Paired (PairK h) (us.zip vs) (ys.zip ns)
  | _, _, _, _, .nil, .nil, _ => .nil
  | _, _, _, _, .nil, .cons _ _, e => by simp at e
  | _, _, _, _, .cons _ _, .nil, e => by simp at e
  | _, _, _, _, .cons a r, .cons b t, e => .cons ⟨a, b⟩ (pair_zip r t (by simpa using e))
theorem pair_vals {h : Heap} : ∀ {l : List Keyed} {ms : List (V × Nat)}, Paired (PairK h) l ms → Vals (ms.map (·.1)) (l.map (·.2))
  | _, _, .nil => .nil
  | _, _, .cons a r => .cons a.2 (pair_vals r)
abbrev clearO (e1 : Nat) : Obj := ⟨.type "list", none, .seq #[] e1, #[]⟩
theorem ks_tail {a kS : Addr} {e1 : Nat} {ks : List V} {P : PySem.Fin → Shared → Prop} {E : Value → Shared → Prop} {st : SortSt} {ms : List (V × Nat)} (I : Inv X pins σ H s) (ha : H a = some (ExO a (clearO e1))) (hk : H kS = some (.lst ks)) (hfl : failedOf st = none)
    (pr : Paired (PairK s.heap) (arrOf st).toList ms) (hz : ms.length ≤ sizeLine) (h : ∀ s', Inv X pins σ (upd (upd H kS (.lst [])) a (.lst (ms.map (·.1)))) s' → P (.done (.ret .none)) s') :
    wpAny (model X.prog X.w) X.A.in1.in1 (ksk_tail a false e1 (.ref kS) st) P E s := by
  obtain ⟨z, its, n, r, hl, e⟩ := I.lstM hk
  have hka : a ≠ kS := ne_of ha hk (exO_ne fun φ => by intro z; cases z)
  unfold ksk_tail
  try dsimp only
  refine wpAny_bind (listUpdate_at e rfl ?_ (by rw [List.size_toArray]; omega) (Nat.zero_le _))
  refine wpAny_bind (wpAny_letGo ?_)
  have I1 : Inv X pins σ (upd H kS (.lst [])) { s with heap := s.heap.update kS (Obj.mapSeq fun _ => (#[] : Array Value)) } := I.lset (t' := s.toks) (its' := []) (f := fun _ => #[]) hk e rfl .nil (Nat.zero_le _)
  have ha1 : (upd H kS (.lst [])) a = some (ExO a (clearO e1)) := by rw [upd_ne hka]; exact ha
  have ea := exO_at I1.hok ha1
  refine wpAny_bind (seqEpoch_at ea rfl ?_)
  have hsz : ((arrOf st).map (·.2)).size ≤ sizeLine := by
    rw [Array.size_map, ← Array.length_toList, ← Paired.lenEq pr]
    exact hz
  refine wpAny_bind (listUpdate_at ea rfl ?_ (Nat.zero_le _) (by simp only [Bool.false_eq_true, if_false]; omega))
  rw [hfl]
  simp only [bne_self_eq_false, Bool.false_eq_true, if_false]
  refine wpAny_pure (h _ ?_)
  obtain ⟨n2, eo⟩ : ∃ n2, ((s.heap.update kS (Obj.mapSeq fun _ => (#[] : Array Value))).update a (Obj.mapSeq fun _ => (arrOf st).map (·.2))).get? a = some (seqObj "list" ((arrOf st).map (·.2)) n2) := ⟨_, get?_update_seq (c := "list") (xs := #[]) (n := e1) ea fun _ => (arrOf st).map (·.2)⟩
  refine I1.write (t' := s.toks) (x := a) (e := a) (by rw [ha1]; exact trivial) (.inl rfl) (fun b u hb hu => (Heap.get?_update_other _ _ (Ne.symm hb)).trans hu) ⟨_, eo⟩ ?_
  refine ⟨by rw [List.length_map]; exact hz, ((arrOf st).map (·.2)).toList, n2, ?_, ?_⟩
  · rw [Array.toList_map]
    exact pair_vals pr
  · rw [Array.toArray_toList]
    exact eo
/-- what is behind the keys' turn -/
theorem ks_end {a kS : Addr} {e1 : Nat} {ys ks : List V} {ns : List Nat} {vs kA : List Value} {P : PySem.Fin → Shared → Prop} {E : Value → Shared → Prop} (I : Inv X pins σ H s) (ha : H a = some (ExO a (clearO e1))) (hk : H kS = some (.lst ks)) (rv : Vals ys vs) (kv : Paired (IsV (SqT X.K H)) ks ns)
    (hl : ks.length = ys.length) (hz : ys.length ≤ sizeLine) (rk : Vals ks kA)
    (h : ∀ (ms : List (V × Nat)) s', Inv X pins σ (upd (upd H kS (.lst [])) a (.lst (ms.map (·.1)))) s' → ms.Perm (ys.zip ns) → ms.Pairwise (fun x y => x.2 ≤ y.2) → P (.done (.ret .none)) s') :
    wpAny (model X.prog X.w) X.A.in1.in1 (ksk_end a false vs.toArray e1 (.ref kS) kA.toArray) P E s := by
  have kt := kt_all I kv rk
  have l1 := rv.length
  have l2 := rk.length
  have l3 := Paired.lenEq kv
  have pz := pair_zip kt rv (by omega)
  have hzs : (kA.toArray.zip vs.toArray).toList = kA.zip vs := ksk_zip kA.toArray vs
  have hms : ∀ ms : List (V × Nat), ms.Perm (ys.zip ns) → ms.length ≤ sizeLine := fun ms p => by
    rw [p.length_eq, List.length_zip]
    omega
  unfold ksk_end
  try dsimp only
  by_cases h2 : vs.toArray.size < 2
  · rw [if_pos h2, if_pos h2]
    simp only [Bool.false_eq_true, if_false]
    refine wpAny_bind (wpAny_pure ?_)
    rw [StateT.run_pure]
    refine wpAny_bind (wpAny_pure ?_)
    try dsimp only
    refine ks_tail (st := SortSt.mk' general' (kA.toArray.zip vs.toArray) #[] 7 none) (ms := ys.zip ns) I ha hk rfl ?_ (hms _ (.refl _)) fun s' I' => h _ s' I' (.refl _) ?_
    · show Paired _ (kA.toArray.zip vs.toArray).toList _
      rw [hzs]
      exact pz
    · rw [List.size_toArray] at h2
      have hlz : (ys.zip ns).length < 2 := by rw [List.length_zip]; omega
      match ys.zip ns, hlz with
      | [], _ => exact .nil
      | [x], _ => exact List.pairwise_singleton _ _
      | x :: y :: t, q => exact absurd q (by rw [List.length_cons, List.length_cons]; omega)
  · rw [if_neg h2, if_neg h2]
    rw [List.size_toArray] at h2
    simp only [Bool.false_eq_true, if_false]
    have hall : ∀ v ∈ kA, ∃ n, KT s.heap v n := fun v hv => by
      obtain ⟨i, hi⟩ := List.mem_iff_getElem?.mp hv
      obtain ⟨n, _, x⟩ := Paired.at kt hi
      exact ⟨n, x⟩
    refine wpAny_bind (kindK (by omega) hall ?_)
    refine wpAny_bind (wpAny_mono (SrtO.wpS_sortO (st0 := SortSt.mk' (tuples' true) (kA.toArray.zip vs.toArray) #[] 7 none)
      (Q := fun _ st' => SrtO.Srtd (ltK s.heap) (arrOf st').toList ∧ SrtO.Stb (ltK s.heap) (arrOf st').toList (kA.toArray.zip vs.toArray).toList ∧ failedOf st' = none) (ltK_swo s.heap) cmpK rfl (fun p hp => ?_) rfl rfl fun st' a1 a2 a3 => ⟨a1, a2, a3⟩) ?_ fun _ _ e => e)
    · have hp : p ∈ (kA.toArray.zip vs.toArray).toList := hp
      rw [hzs] at hp
      obtain ⟨x, y⟩ := p
      exact hall x (List.of_mem_zip hp).1
    · rintro ⟨⟨⟩, st'⟩ s' ⟨rfl, hp1, hp2, hf⟩
      try dsimp only
      rw [hzs] at hp2
      obtain ⟨ms, pm, pr⟩ := paired_perm hp2.perm pz
      refine ks_tail I ha hk hf pr (hms _ pm) fun s2 I' => h ms s2 I' pm ?_
      refine paired_pw (fun x y c d hx hy hlt => ?_) pr hp1
      unfold ltK at hlt
      rw [decide_eq_false_iff_not, kN_eq hy.1, kN_eq hx.1] at hlt
      omega
end
end K3

namespace K3
open PySem PySem.Spec PyProof.Rows L2
section
variable {X : Cx} {pins : List (Addr × Obj)} {σ : L2.St} {H : Hp} {s : Shared} {k : Nat} {f : Addr} {F : LF} {ps fr : List Str} {sp : List (Option V) → Sp} {ws : List (Option V)}
theorem ks_rest {a kS : Addr} {e1 : Nat} {ys ks : List V} {ns : List Nat} {vs : List Value} {P : PySem.Fin → Shared → Prop} {E : Value → Shared → Prop} (Fn : LOk X.prog X.w X.K X.mg X.base CX0 k f F ps fr sp) (hr : Room (k + 2) X.A) (C : ∀ h H', NdefX.CellsAt F.cl fr ws h H')
    (I : Inv X pins σ (upd (upd H a (ExO a (clearO e1))) kS (.lst [])) s) (na : H a = none) (nk : H kS = none) (hka : kS ≠ a) (rv : Vals ys vs) (kv : Paired (IsV (SqT X.K H)) ks ns) (hl : ks.length = ys.length) (hz : ys.length ≤ sizeLine) (hf : H f = some (LamO f F)) (hc : H F.c = some (LamX.CodeO F.c F.qual))
    (turn : ∀ (H' : Hp) (i : Nat) (y v : V), (∀ b o, H b = some o → H' b = some o) → ys[i]? = some y → ks[i]? = some v → ∀ R : VK, R v H' → sp ws [y] H' R E0)
    (h : ∀ (ms : List (V × Nat)) s', Inv X pins σ (upd (upd (upd H a (ExO a (clearO e1))) kS (.lst [])) a (.lst (ms.map (·.1)))) s' → ms.Perm (ys.zip ns) → ms.Pairwise (fun x y => x.2 ≤ y.2) → P (.done (.ret .none)) s') :
    wpAny (model X.prog X.w) X.A.in1.in1 (ksk_rest a (.ref f) false vs.toArray e1 (.ref kS)) P E s := by
  have lv := rv.length
  let H1 : Hp := upd H a (ExO a (clearO e1))
  have old : ∀ (l : List V) b o, H b = some o → upd H1 kS (.lst l) b = some o := fun l b o e => by
    rw [upd_ne (ne_of_none e nk)]
    show upd H a _ b = _
    rw [upd_ne (ne_of_none e na)]
    exact e
  have old2 : ∀ l : List V, Go [] [] H (upd H1 kS (.lst l)) := fun l => ⟨fun b o _ e _ => old l b o e, fun b xs e => old l b _ e, fun b o u e => old l b _ e, fun b e => upd_out (upd_out e), fun t => t.ext fun b o e => old l b o e⟩
  unfold ksk_rest
  refine wpAny_bind (wpAny_rule ?_)
  rw [List.forIn_toArray]
  refine wpAny_bind (ksk_fold (fun i s' => Inv X pins σ (upd H1 kS (.lst (ks.take i))) s') vs 0 s (by simpa using I) ?step ?done)
  case step =>
    intro j x s' hx I'
    simp only [Nat.zero_add] at I' ⊢
    have hj : j < vs.length := (List.getElem?_eq_some_iff.mp hx).1
    obtain ⟨y, hy, ry⟩ : ∃ y, ys[j]? = some y ∧ RelV y x := by
      have hy : ys[j]? = some (ys[j]'(by omega)) := List.getElem?_eq_getElem (by omega)
      obtain ⟨u, e, r⟩ := rv.get hy
      rw [hx] at e
      cases e
      exact ⟨_, hy, r⟩
    have hk : ks[j]? = some (ks[j]'(by omega)) := List.getElem?_eq_getElem (by omega)
    refine wpAny_bind (wpAny_attempt (wpAny_mono (key_call Fn hr I' (old _ _ _ hf) (old _ _ _ hc) (C _ _) (.cons ry .nil) (turn _ j y _ (old _) hy hk (fun v H' => v = ks[j]'(by omega) ∧ H' = upd H1 kS (.lst (ks.take j))) ⟨rfl, rfl⟩)) (fun v s'' he => ?_) fun _ _ hF => hF.elim))
    obtain ⟨v', H', I2, r2, rfl, rfl⟩ := he
    try dsimp only
    obtain ⟨z, its, n, r, hln, e⟩ := I2.lstM upd_same
    have hlt : its.length = j := by
      rw [← hln, List.length_take]
      omega
    refine wpAny_bind (listUpdate_at e rfl ?_ (by rw [List.size_toArray]; omega) (by rw [Array.size_push, List.size_toArray]; omega))
    refine wpAny_pure ⟨rfl, ?_⟩
    have I3 := I2.lset (t' := s''.toks) (its' := its ++ [v]) (ys := ks.take j ++ [ks[j]'(by omega)]) (f := (·.push v)) upd_same e (by simp) (r.append (.cons r2 .nil)) (by rw [List.length_append, List.length_singleton, List.length_take]; omega)
    rw [upd_upd] at I3
    have et : ks.take (j + 1) = ks.take j ++ [ks[j]'(by omega)] := by rw [List.take_add_one, hk]; simp
    rw [et]
    exact I3
  case done =>
    intro s' I'
    have et : ks.take (0 + vs.length) = ks := List.take_of_length_le (by omega)
    rw [et] at I'
    try dsimp only
    obtain ⟨z, its, n, r, hln, e⟩ := I'.lstM upd_same
    refine wpAny_bind (listItems_at e rfl ?_)
    refine ks_end I' (by rw [upd_ne (fun q => hka q.symm)]; exact upd_same) upd_same rv (Paired.mapP kv fun _ _ z => z.go (old2 _)) hl hz r fun ms s2 I2 p q => h ms s2 ?_ p q
    rw [upd_upd] at I2
    exact I2
theorem cr_sortV {T : Tbl} (Fn : LOk X.prog X.w X.K X.mg X.base CX0 k f F ps fr sp) (hr : Room (k + 2) X.A) : CallRK X (.builtin "sorted") [Str.ofString "key"] (rSortV X.K T fr sp ws f F) := by
  intro pins s σ H xs zs us wv Q I r rz h
  obtain ⟨l, ys, ns, ks, rfl, rfl, hsq, kv, hl, hf, hc, C, turn, q⟩ := h
  rw [Vals.ref1 r, Vals.ref1 rz]
  show wpAny (model X.prog X.w) X.A (call (.builtin "sorted") [.ref l] [(Str.ofString "key", .ref f)]) _ _ s
  -- the list's items
  obtain ⟨vs, rv, hz, ob⟩ : ∃ vs : List Value, Vals ys vs ∧ ys.length ≤ sizeLine ∧ ∃ (ty : String) (o : Obj) (n : Nat), (ty = "list" ∨ ty = "tuple") ∧ s.heap.get? l = some o ∧ o.cls = .type ty ∧ o.data = .seq vs.toArray n := by
    rcases hsq with hsq | hsq
    · obtain ⟨its, rv, pl, hz⟩ := I.list hsq
      obtain ⟨o, e, c, n, d⟩ := pl.isList
      exact ⟨its, rv, hz, "list", o, n, .inl rfl, e, c, d⟩
    · obtain ⟨its, rv, ⟨o, e, c, n, d⟩, hz⟩ := I.tuple hsq
      exact ⟨its, rv, hz, "tuple", o, n, .inr rfl, e, c, d⟩
  obtain ⟨ty, o, n, hty, eo, co, dO⟩ := ob
  have lv := rv.length
  refine call_function_entry_kw kind_sorted plain_sorted entry_sorted (ksk_s1 _ _) ?_
  unfold Builtin.«sorted»
  refine wpAny_bind (m := checkCount "sorted" 1 1 _) (wpAny_pure ?_)
  refine wpAny_bind (wpAny_collect_seq l hty eo co dO (fun h1 kp => ?_) (by rw [List.size_toArray]; omega))
  refine wpAny_bind (wpAny_newList ?_ (by simp; omega))
  have oa : (h1.push ({ cls := .type "list", data := .seq vs.toArray.toList.toArray } : Obj)).get? h1.objs.size = some ({ cls := .type "list", data := .seq vs.toArray.toList.toArray } : Obj) := Heap.get?_push_size _ rfl
  have I1 : Inv X pins σ H { s with heap := h1 } := I.kept (t' := s.toks) kp
  refine wpAny_bind (wpAny_holding (wpAny_call_entry_kw slot_list_sort ⟨_, oa, rfl⟩ entry_list_sort ?_ (ksk_l1 _ _)))
  rw [ksk_t1]
  unfold ksk_tree
  refine wpAny_bind (listItems_at oa rfl ?_)
  refine wpAny_bind (listUpdate_at oa rfl ?_ (by simp; omega) (Nat.zero_le _))
  obtain ⟨e1, ho1⟩ : ∃ e1, ((h1.push ({ cls := .type "list", data := .seq vs.toArray.toList.toArray } : Obj)).update h1.objs.size (Obj.mapSeq fun _ => (#[] : Array Value))).get? h1.objs.size = some (clearO e1) := ⟨_, get?_update_seq (c := "list") oa fun _ => #[]⟩
  refine wpAny_bind (seqEpoch_at ho1 rfl ?_)
  refine wpAny_bind (wpAny_newTuple ?_ (by simp; omega))
  refine wpAny_bind (wpAny_newList ?_ (Nat.zero_le _))
  refine wpAny_holding ?_
  have na : H h1.objs.size = none := I1.hok.fresh (Nat.le_refl _)
  have I2 : Inv X pins σ (upd H h1.objs.size (ExO h1.objs.size (clearO e1))) { s with heap := (h1.push ({ cls := .type "list", data := .seq vs.toArray.toList.toArray } : Obj)).update h1.objs.size (Obj.mapSeq fun _ => (#[] : Array Value)) } :=
    I1.laid (t' := s.toks) (fun b u e => (Heap.get?_update_ne _ _ _ _ (Nat.ne_of_lt (Heap.lt_size e))).trans (Heap.get?_push_of_some _ e)) (Nat.le_refl _) (exO_ok ho1)
  have I3 := I2.kept (t' := s.toks) (h' := ((h1.push ({ cls := .type "list", data := .seq vs.toArray.toList.toArray } : Obj)).update h1.objs.size (Obj.mapSeq fun _ => (#[] : Array Value))).push ({ cls := .type "tuple", data := .seq vs.toArray.toList.toArray } : Obj)) fun b u e => Heap.get?_push_of_some _ e
  have I4 := I3.lnew (t' := s.toks) (its := []) (ys := []) .nil (Nat.zero_le _)
  have nk := I3.fresh
  have nkH := upd_out nk
  have hka : ∀ x, upd H h1.objs.size (ExO h1.objs.size (clearO e1)) x = none → x ≠ h1.objs.size := fun x e z => by
    rw [z, upd_same] at e
    cases e
  refine ks_rest Fn hr C I4 na nkH (hka _ nk) (by simpa using rv) kv hl hz hf hc turn fun ms s' I' pm pw => ⟨_, rfl, ?_⟩
  refine wpAny_pure ⟨_, rfl, .ref h1.objs.size, _, I', rfl, q ms _ _ pm pw na ?_ upd_same⟩
  have old : ∀ b o, H b = some o → upd (upd (upd H h1.objs.size (ExO h1.objs.size (clearO e1))) (((h1.push ({ cls := .type "list", data := .seq vs.toArray.toList.toArray } : Obj)).update h1.objs.size (Obj.mapSeq fun _ => (#[] : Array Value))).push ({ cls := .type "tuple", data := .seq vs.toArray.toList.toArray } : Obj)).objs.size (.lst [])) h1.objs.size (.lst (ms.map (·.1))) b = some o := fun b o e => by
    rw [upd_ne (ne_of_none e na), upd_ne (ne_of_none e nkH), upd_ne (ne_of_none e na)]
    exact e
  exact ⟨fun b o _ e _ => old b o e, fun b xs e => old b _ e, fun b o u e => old b _ e, fun b e => upd_out (upd_out (upd_out e)), fun t => t.ext old⟩
end
end K3

namespace K3
open PySem PySem.Spec PyProof.Rows L2
/-- where a def that makes a lambda stands: its code object at c, the table of its code at P -/
structure TopT (K : PySem.W.Frag) (mg : Str → Option Value) (base : Heap) (x : Str) (st : Stmt) (P : Addr) : Prop where
  ex : ∃ (f : Addr) (oc : Value) (od : Option Addr) (kV doc pm : Value) (an : Option Addr) (c : Addr) (ct : Value) (osl : Array (Option Value)), K.lookup f = some ⟨oc, od, .func (PySem.W.fnOf x x (defArgs st) (defBody st) (defScope st) .none kV doc pm an (.ref c) ct), osl⟩ ∧
    PySem.W.codeIn K (.ref c) x = true ∧ PySem.W.keepIn K (.ref f) = true ∧ mg x = some (.ref f) ∧ LamX.TabB base mg c P
/-- the lambda's table is among T -/
structure TabIn (T : Tbl) (P : Addr) (q : Str) : Prop where
  mem : (P, q) ∈ T
  one : ∀ p ∈ T, p.1 = P → p.2 = q
section
variable {P : Program} {w : World} {K : PySem.W.Frag} {mg : Str → Option Value} {base : Heap} {k : Nat} {x : Str} {st : Stmt} {N ps : List Str} {sp : Sp} {tb : Addr}
theorem defT_of (D : TopT K mg base x st tb) (S : FnScope N ps (defScope st)) (hb : ∀ (kV doc pm : Value) (an : Option Addr) (cdv ct : Value) (us : List Value), us.length = ps.length → bindArgs (PySem.W.fnOf x x (defArgs st) (defBody st) (defScope st) .none kV doc pm an cdv ct) ⟨us, []⟩ = pure (ps.zip us))
    (len : ∀ vs H Q E, sp vs H Q E → vs.length = ps.length)
    (hbody : ∀ (f c : Addr) (A : Around) (outer : List Env) (s : Shared) (H : Hp) (vs : List V) (Q : VK) (E : XK), LamX.TabB base mg c tb → Room k (A.deeper (envOfC x (defScope st) s.heap.objs.size f (.ref c))) → sp vs H Q E →
      ∃ t, PSs (cxOf CX0 P w K mg base N x (defScope st) f (.ref c) A outer s H E).nox (defBody st) t ∧ t { nx := fun _ H' => Q .non H', rt := Q } (start N vs) H) : DefF P w K mg base (k + 1) x ps sp := by
  obtain ⟨f, oc, od, kV, doc, pm, an, c, ct, osl, lk, hcd, hk, hm, TB⟩ := D.ex
  refine ⟨f, _, ⟨len, fun A outer s H args us vs Q E hr e0 hbt r hsp => ?_⟩, hm, hk, .all (hb kV doc pm an (.ref c) ct)⟩
  refine LamX.run_ofS lk hcd S hr e0 hbt r (len _ _ _ _ hsp) fun hr' => ?_
  obtain ⟨t, h, q⟩ := hbody f c A outer s H vs Q E TB hr' hsp
  exact ⟨t, h.nox, q⟩
end
section
variable {X : Cx} (K : PySem.W.Frag)
def rTupK (K : PySem.W.Frag) : List V → Hp → VK → Prop := fun xs H Q => ∃ p ys, xs = [.ref p] ∧ ((SqL K H p ys ∧ ∀ l, H l = none → Q (.ref l) (upd H l (.tup ys))) ∨ (SqT K H p ys ∧ Q (.ref p) H))
theorem tupK (h : X.K = K := by rfl) : CallR X (.type "tuple") (rTupK K) := h ▸ call_tuple_of
def rLstK (K : PySem.W.Frag) : List V → Hp → VK → Prop := fun xs H Q => ∃ p ys, xs = [.ref p] ∧ (SqL K H p ys ∨ SqT K H p ys) ∧ ∀ l, H l = none → Q (.ref l) (upd H l (.lst ys))
theorem lstK (h : X.K = K := by rfl) : CallR X (.type "list") (rLstK K) := h ▸ call_list_of
theorem peM {a : Expr} {pos p1 p2 : Pos} {j : Nat} {ta : TE} (ha : PE X a ta) (h : X.K = K := by rfl) : PE X (.Subscript a (.UnaryOp .USub (.Constant (.int 1) j p1) p2) pos) (tOp (rIxL K) ta (tUn (rU fun i => .int (-i)) (tC (.int 1)))) := peIx (ixL K h) ha (pe_un un_neg pe_int)
end
theorem tyL {K : PySem.W.Frag} {H : Hp} {q : Addr} {xs : List V} (h : H q = some (.lst xs)) : tyV K "list" (.ref q) H := .inl ⟨rfl, xs, .of h⟩
/-! ### rest -/
section
variable {P : Program} {w : World} {K : PySem.W.Frag} {mg : Str → Option Value} {base : Heap} {T : Tbl}
theorem AllS.app {Tp : TP} : ∀ {vs us : List V} {R S : Rg}, AllS Tp vs R → AllS Tp us S → AllS Tp (vs ++ us) (R ++ S)
  | _, _, _, _, .nil, h => h
  | _, _, _, _, .cons a r, h => .cons a (AllS.app r h)
def spRest (T : Tbl) (K : PySem.W.Frag) : Sp := fun vs H Q _ => ∃ v R, vs = [v] ∧ IsR (SqT K H) v R ∧ R.length ≤ 10000 ∧ GiveR T K H (restR R) Q
theorem restF_cons (low b : Nat) (e : Option Nat) (r : Rg) : restF low ((b, e) :: r) = stR low (some b) ++ (match e with | none => [] | some h => restF h r) := by
  have e1 : stR low (some b) = if low < b then [(low, some b)] else [] := by
    unfold stR aboveB
    simp only [decide_eq_true_eq]
  rw [e1]
  cases e <;> rfl
theorem stR_len (n : Nat) (o : Option Nat) : (stR n o).length ≤ 1 := by
  unfold stR
  split <;> simp
theorem ok_rest (G : Glo K mg) (D : Top K mg "rest" s_rest) (D1 : DefF P w K mg base 2 "stretch" ["low", "high"] (spStretch T K)) : DefF P w K mg base 3 "rest" ["one"] (spRest T K) := by
  refine def_of D sc_rest bd_rest (fun vs H Q E ⟨_, _, e, _⟩ => by rw [e]; rfl) ?_
  rintro f cdv A outer s H vs Q E hr ⟨v, R, rfl, ⟨p, xs, rfl, hp, ax⟩, lR, qq⟩
  obtain ⟨al, hml, hal⟩ := G.least
  have hlx := AllS.len ax
  refine ⟨_, pss_cons (ps_par (i := 1) (j := 2) rfl sc_rest.nd rfl rfl (by decide) rfl rfl (pa_cons (pe_lst pa_nil) (pa_cons (pe_glob (v := .ref al) (by rfl) hml rfl) pa_nil)) (by rfl))
    (pss_cons (ps_forW PassesOwn.never (pi_tup (pv 0)) (pgT K 2 (pgs_cons (pg_name (i := 3) sc_rest.nd rfl (.inl rfl)) (pgs_cons (pg_name (i := 4) sc_rest.nd rfl (.inl rfl)) pgs_nil)))
        (pss_cons (ps_expr (pe_bm PySem.F.plainAttrs_list PySem.F.slot_list_extend PySem.F.type_list_extend mt_extT (pv 1) (pa_cons (pe_D D1 hr (by rfl) (pa_cons (pv 2) (pa_cons (pv 3) pa_nil))) pa_nil)))
          (pss_cons (ps_if (pt_cmp (pc_isN (pv 4))) (pss_one (ps_ret (pe_callTy (tupK K) (by rfl) (G.free "tuple" (by decide +kernel)) rfl (pa_cons (pv 1) pa_nil)))) pss_nil)
            (pss_one (ps_set (i := 2) sc_rest.nd rfl (.inl rfl) (pv 4))))))
      (pss_one (ps_ret (pe_tup (paStar K (pv 1) (pa_cons (pe_tup (pa_cons (pv 2) (pa_cons pe_non pa_nil))) pa_nil)))))), ?_⟩
  refine ⟨by decide, fun q hq => ⟨_, _, rfl, .ref p, rfl, p, rfl, ⟨_, (Go.new (T := T) (M := []) hq).sqt hp⟩, ?_⟩⟩
  have g0 : Go T [] H (upd H q (.lst [])) := Go.new hq
  refine for_go (T := T) (it_tup (xs := xs)) (fun i σ H' => Go T [] H H' ∧ ∃ (acc : List V) (vl y3 : Option V) (y4 : Option V) (u : V) (A : Rg) (low : Nat), σ = [some (.ref p), some (.ref q), some u, y3, y4] ∧ H' q = some (.lst acc) ∧ AllS (SqT K H') acc A ∧ IsV (SqT K H') u low ∧ A.length ≤ i ∧ A ++ restF low (R.drop i) = restF 0 R)
    ⟨g0, [], none, _, _, .ref al, [], 0, rfl, upd_same, .nil, isV0 (hal _), Nat.le_refl _, rfl⟩ (fun i σ H' _ h => h.1.sqt hp) ?_ ?_
  · rintro i x σ H1 H2 hi ⟨g1, acc, _, y3, y4, u, AA, low, rfl, hacc, aA, hu, lA, eA⟩ g2 it
    obtain ⟨⟨b, e⟩, hR, ⟨pz, vb, ve, rfl, tz, ib, ie⟩⟩ := AllS.at ax it
    have g12 := g1.trans g2
    refine ⟨pz, _, rfl, g12.sqt tz, rfl, _, _, rfl, _, _, rfl, rfl, ?_⟩
    have hd : R.drop i = (b, e) :: R.drop (i + 1) := by
      rw [List.drop_eq_getElem_cons (by omega)]
      congr 1
      rw [List.getElem?_eq_getElem (by omega)] at hR
      exact Option.some.inj hR
    rw [hd, restF_cons] at eA
    have h2 : H2 q = some (.lst acc) := g2.lst hacc
    refine ⟨.ref q, rfl, tyL h2, u, rfl, vb, rfl, u, vb, low, some b, rfl, hu.go g2, ib.go g12, fun r H3 g3 hr3 => ?_⟩
    obtain ⟨pr, zs, rfl, hpr, az⟩ := hr3
    have h3 : H3 q = some (.lst acc) := g3.lst h2
    have lz := AllS.len az
    have lz1 := stR_len low (some b)
    have la := AllS.len aA
    refine ⟨q, pr, acc, zs, rfl, rfl, h3, hpr, by rw [sizeLine_eq]; omega, ?_⟩
    have g4 : Go T [] H (upd H3 q (.lst (acc ++ zs))) := (g12.trans g3).mut hq h3
    have gw : Go T [q] H3 (upd H3 q (.lst (acc ++ zs))) := Go.wr (by simp) h3
    have a4 : AllS (SqT K (upd H3 q (.lst (acc ++ zs)))) (acc ++ zs) (AA ++ stR low (some b)) := AllS.app ((aA.go (g2.trans g3)).go gw) (az.go gw)
    refine ⟨ve, rfl, decide (ve = .non), rfl, ?_⟩
    cases e with
    | none =>
      cases (show ve = .non from ie)
      refine iteT ⟨.ref q, rfl, q, _, rfl, .inl ⟨.of upd_same, fun c hc => qq _ _ (g4.trans (Go.new hc)) ?_⟩⟩
      refine ⟨c, _, rfl, .of upd_same, ?_⟩
      have ea : AA ++ stR low (some b) = restR R := by
        rw [← show restF 0 R = restR R from rfl, ← eA]
        simp
      rw [← ea]
      exact a4.go (Go.new (T := T) (M := []) hc)
    | some h =>
      obtain ⟨pe, rfl, te, hh⟩ := ie
      refine iteF ⟨_, rfl, g4, _, none, _, _, _, _, h, rfl, upd_same, a4, ⟨pe, rfl, g4.sqt te, hh⟩, ?_, ?_⟩
      · rw [List.length_append]
        omega
      · rw [← eA, List.append_assoc]
  · rintro σ H1 ⟨g1, acc, _, y3, y4, u, AA, low, rfl, hacc, aA, hu, lA, eA⟩
    have hdr : R.drop xs.length = [] := List.drop_eq_nil_of_le (by omega)
    rw [hdr] at eA
    have la := AllS.len aA
    refine ⟨.ref q, rfl, q, acc, rfl, .inr (.of hacc), u, rfl, by show 2 ≤ sizeLine; decide, fun c hc => ⟨?_, fun d hd => ?_⟩⟩
    · rw [List.length_append, List.length_singleton, sizeLine_eq]
      omega
    · have gc : Go T [] H1 (upd H1 c (.tup [u, .non])) := Go.new hc
      have gd : Go T [] (upd H1 c (.tup [u, .non])) (upd (upd H1 c (.tup [u, .non])) d (.tup (acc ++ [.ref c]))) := Go.new hd
      refine qq _ _ ((g1.trans gc).trans gd) ⟨d, _, rfl, .of upd_same, ?_⟩
      show AllS _ _ (restF 0 R)
      rw [← eA]
      exact AllS.app (aA.go (gc.trans gd)) (.cons ⟨c, _, _, rfl, gd.sqt (.of upd_same), hu.go (gc.trans gd), rfl⟩ .nil)
end
end K3

namespace K3
open PySem PySem.Spec PyProof.Rows L2
theorem Paired.snocInv {α β : Type} {R : α → β → Prop} {x : β} : ∀ {m : List β} {l : List α}, Paired R l (m ++ [x]) → ∃ l' y, l = l' ++ [y] ∧ Paired R l' m ∧ R y x
  | [], _, .cons a .nil => ⟨[], _, rfl, .nil, a⟩
  | _ :: m, _, .cons a r => by
    obtain ⟨l', y, rfl, p, q⟩ := Paired.snocInv (m := m) r
    exact ⟨_, y, rfl, .cons a p, q⟩
theorem AllS.snocInv {Tp : TP} {x : V} : ∀ {vs : List V} {R : Rg}, AllS Tp (vs ++ [x]) R → ∃ R' s, R = R' ++ [s] ∧ AllS Tp vs R' ∧ IsS Tp x s
  | [], _, .cons a .nil => ⟨[], _, rfl, .nil, a⟩
  | _ :: m, _, .cons a r => by
    obtain ⟨l', y, rfl, p, q⟩ := AllS.snocInv (vs := m) r
    exact ⟨_, y, rfl, .cons a p, q⟩
theorem unS_nil (p : Sg) : unS [] p = [p] := rfl
theorem unS_last (A : Rg) (s p : Sg) : unS (A ++ [s]) p = match s with | (_, none) => A ++ [s] | (l, some h) => if h < p.1 then A ++ [s] ++ [p] else if aboveB p.2 h = true then A ++ [(l, p.2)] else A ++ [s] := by
  unfold unS
  rw [List.getLast?_concat]
  obtain ⟨l, e⟩ := s
  cases e with
  | none => rfl
  | some h =>
    simp only [List.dropLast_concat]
    split
    · rfl
    · obtain ⟨p1, p2⟩ := p
      cases p2 with
      | none => rfl
      | some k =>
        show (if h < k then A ++ [(l, some k)] else A ++ [(l, some h)]) = if decide (h < k) = true then _ else _
        simp only [decide_eq_true_eq]
/-- a list of stretches as data -/
def lstD (R : Rg) : PyData := .list (R.map segD)
theorem shaped_lst (R : Rg) : SeqAt.shaped (lstD R) = true := by
  refine shaped_of (canLay_segs R) ?_
  have h := depth_segs R
  have e : (lstD R).depth = PyData.depthAll (R.map segD) + 1 := rfl
  rw [e]
  omega
theorem lstD_nil (R : Rg) : PyData.eqv (lstD R) (lstD []) = decide (R = []) := segs_eqv (S := [])
theorem AllS.lstDp {K : PySem.W.Frag} {H : Hp} {q : Addr} {vs : List V} {R : Rg} (h : SqL K H q vs) (a : AllS (SqT K H) vs R) : Dp K H (.ref q) (lstD R) := .lst h a.dp
/-- a stretch's low ends as values -/
theorem lows_of {Tp : TP} : ∀ {ys : List V} {L : Rg}, AllS Tp ys L → ∃ ks : List V, Paired (IsV Tp) ks (L.map (·.1)) ∧ ks.length = ys.length ∧ ∀ (i : Nat) (y v : V), ys[i]? = some y → ks[i]? = some v → ∃ p b, y = .ref p ∧ Tp p [v, b]
  | _, _, .nil => ⟨[], .nil, rfl, fun i y v h _ => by simp at h⟩
  | _, _, .cons a r => by
    obtain ⟨ks, h1, h2, h3⟩ := lows_of r
    obtain ⟨p, x, b, rfl, t, ix, _⟩ := a
    refine ⟨x :: ks, .cons ix h1, congrArg (· + 1) h2, fun i y v hy hv => ?_⟩
    cases i with
    | zero =>
      simp at hy hv
      subst hy hv
      exact ⟨p, b, rfl, t⟩
    | succ i => exact h3 i y v (by simpa using hy) (by simpa using hv)
theorem zip_lows {Tp : TP} : ∀ {ys : List V} {L : Rg}, AllS Tp ys L → Paired (fun (q : V × Nat) (s : Sg) => IsS Tp q.1 s ∧ q.2 = s.1) (ys.zip (L.map (·.1))) L
  | _, _, .nil => .nil
  | _, _, .cons a r => .cons ⟨a, rfl⟩ (zip_lows r)
theorem fst_all {Tp : TP} : ∀ {ms : List (V × Nat)} {L : Rg}, Paired (fun (q : V × Nat) (s : Sg) => IsS Tp q.1 s ∧ q.2 = s.1) ms L → AllS Tp (ms.map (·.1)) L
  | _, _, .nil => .nil
  | _, _, .cons a r => .cons a.1 (fst_all r)
theorem catA_go {T : Tbl} {K : PySem.W.Frag} {H : Hp} {a b : Addr} {xs ys : List V} {Q : VK} (ha : SqT K H a xs) (hb : SqT K H b ys) (hz : xs.length + ys.length ≤ sizeLine) (h : ∀ p H1, Go T [] H H1 → SqT K H1 p (xs ++ ys) → Q (.ref p) H1) : rCatA K (.ref a) (.ref b) H Q := by
  refine ⟨a, b, xs, ys, rfl, rfl, ha, hb, hz, fun e => ?_, fun _ e => ?_, fun _ _ p hp => h p _ (Go.new hp) (.of upd_same)⟩
  · subst e
    exact h b H Go.refl hb
  · subst e
    exact h a H Go.refl (by rw [List.append_nil]; exact ha)
/-- xs[-1][0], xs[-1][1], xs the local at i -/
theorem last1 {K : PySem.W.Frag} {σ : L2.St} {H : Hp} {Q : VK} {i : Nat} {q pl : Addr} {acc : List V} {va vl : V} (hs : σ[i]? = some (some (.ref q))) (hq : H q = some (.lst (acc ++ [.ref pl]))) (tl : SqT K H pl [va, vl]) (h : Q vl H) :
    tOp (rIxT K) (tOp (rIxL K) (tVar i) (tUn (rU fun i => .int (-i)) (tC (.int 1)))) (tC (.int 1)) σ H Q := ⟨.ref q, hs, 1, rfl, q, _, -1, .ref pl, rfl, rfl, .of hq, atL, pl, _, 1, vl, rfl, rfl, tl, rfl, h⟩
theorem last0 {K : PySem.W.Frag} {σ : L2.St} {H : Hp} {Q : VK} {i : Nat} {q pl : Addr} {acc : List V} {va vl : V} (hs : σ[i]? = some (some (.ref q))) (hq : H q = some (.lst (acc ++ [.ref pl]))) (tl : SqT K H pl [va, vl]) (h : Q va H) :
    tOp (rIxT K) (tOp (rIxL K) (tVar i) (tUn (rU fun i => .int (-i)) (tC (.int 1)))) (tC (.int 0)) σ H Q := ⟨.ref q, hs, 1, rfl, q, _, -1, .ref pl, rfl, rfl, .of hq, atL, pl, _, 0, va, rfl, rfl, tl, rfl, h⟩
theorem ixL1 (acc : List V) (x : V) : ixN (acc ++ [x]).length (-1) = some acc.length := by
  unfold ixN
  rw [if_neg (by omega), if_pos (by rw [List.length_append, List.length_singleton]; omega)]
  congr 1
  rw [List.length_append, List.length_singleton]
  omega
theorem setL1 (acc : List V) (x y : V) : (acc ++ [x]).set acc.length y = acc ++ [y] := by simp
/-! ### the lambda part: part[0] -/
def lamArgs : Expr → Arguments
  | .Lambda a _ _ _ => a
  | _ => ⟨[], [], none, [], [], none, []⟩
def lamBody : Expr → Expr
  | .Lambda _ b _ _ => b
  | e => e
def lamScope : Expr → Scope
  | .Lambda _ _ s _ => s
  | _ => { kind := .function, names := [], isGenerator := false, isCoroutine := false }
def unionLam : Expr := match (defBody s_union).getD 1 (.Pass ⟨0, 0, 0, 0⟩) with
  | .For _ (.Call _ _ (kw :: _) _) _ _ _ => kw.value
  | _ => .Constant .none 0 ⟨0, 0, 0, 0⟩
def lamQ (x : Str) : Str := x ++ ".<locals>." ++ "<lambda>"
def mkU (c' : Addr) : LF := ⟨lamQ "union", lamArgs unionLam, lamBody unionLam, lamScope unionLam, [], c'⟩
def spPart (K : PySem.W.Frag) : List (Option V) → Sp := fun _ vs H Q _ => ∃ p x b, vs = [.ref p] ∧ SqT K H p [x, b] ∧ Q x H
def rSortL (K : PySem.W.Frag) (T : Tbl) (mk : Addr → LF) (sp : List (Option V) → Sp) : List V → List V → Hp → VK → Prop := fun xs zs H Q => ∃ f c', rSortV K T [] sp [] f (mk c') xs zs H Q
theorem cr_sortL {X : Cx} {T : Tbl} {k : Nat} {ps : List Str} {sp : List (Option V) → Sp} {mk : Addr → LF} (K : PySem.W.Frag) (Fn : ∀ f c', LOk X.prog X.w X.K X.mg X.base CX0 k f (mk c') ps [] sp) (hr : Room (k + 2) X.A) (h : X.K = K := by rfl) :
    CallRK X (.builtin "sorted") [Str.ofString "key"] (rSortL K T mk sp) := by
  subst h
  rintro pins s σ H xs zs us ws Q I r rz ⟨f, c', q⟩
  exact cr_sortV (Fn f c') hr pins s σ H xs zs us ws Q I r rz q
section
variable {P : Program} {w : World} {K : PySem.W.Frag} {mg : Str → Option Value} {base : Heap} {T : Tbl} {tb : Addr}
theorem lamU_ok (f c' : Addr) : LOk P w K mg base CX0 1 f (mkU c') ["part"] [] (spPart K) := by
  refine lok_of (N := ["part"]) (NdefX.nscope_by (show NdefX.nscB ["part"] ["part"] [] (lamScope unionLam) = true by decide +kernel)) (fun pm ctv us h => match us, h with | [_], _ => rfl) (fun ws vs H Q E ⟨_, _, _, e, _⟩ => by rw [e]; rfl) ?_
  rintro A outer s H vs ws Q E hr hw ⟨p, x, b, rfl, hp, q⟩
  obtain rfl : ws = [] := List.eq_nil_of_length_eq_zero hw
  exact ⟨_, peT K (pv 0), .ref p, rfl, p, _, 0, x, rfl, rfl, hp, rfl, q⟩
def spUnion (T : Tbl) (K : PySem.W.Frag) : Sp := fun vs H Q _ => ∃ v u R S, vs = [v, u] ∧ IsR (SqT K H) v R ∧ IsR (SqT K H) u S ∧ Can 0 R ∧ Can 0 S ∧ R.length ≤ 5000 ∧ S.length ≤ 5000 ∧ LamX.Tabs T H ∧
  ∀ v H' R', Go T [] H H' → IsR (SqT K H') v R' → Can 0 R' → (∀ x, inR x R' = (inR x R || inR x S)) → R'.length ≤ R.length + S.length → Q v H'
theorem ok_union (G : Glo K mg) (D : TopT K mg base "union" s_union tb) (TI : TabIn T tb (lamQ "union")) (D1 : DefF P w K mg base 1 "is_above" ["high", "low"] (spAbove K)) : DefF P w K mg base 4 "union" ["one", "other"] (spUnion T K) := by
  refine defT_of D sc_union bd_union (fun vs H Q E ⟨_, _, _, _, e, _⟩ => by rw [e]; rfl) ?_
  rintro f c A outer s H vs Q E TB hr ⟨v, u, R, S, rfl, ⟨p1, xs, rfl, hp1, ax⟩, ⟨p2, ys, rfl, hp2, ay⟩, cR, cS, lR, lS, tabs, qq⟩
  refine ⟨_, pss_cons (ps_set (i := 2) sc_union.nd rfl (.inl rfl) (pe_lst pa_nil))
    (pss_cons (ps_forW PassesOwn.never (pi_list (pe_callBK (cr_sortL K (T := T) (mk := mkU) (fun f c' => lamU_ok f c') hr) (by rfl) (G.free "sorted" (by decide +kernel)) rfl (pa_cons (pe_op (catA K) (pv 0) (pv 1)) pa_nil) (pk_cons (pe_lam TB rfl TI.mem TI.one rfl fun y hy e => absurd e (by obtain rfl := List.mem_singleton.mp hy; exact fun z => nomatch z)) pk_nil)))
        (pgT K 2 (pgs_cons (pg_name (i := 3) sc_union.nd rfl (.inl rfl)) (pgs_cons (pg_name (i := 4) sc_union.nd rfl (.inl rfl)) pgs_nil)))
        (pss_one (ps_if (PW.pt (pw_or (pt_cmpR (eqD K hr.units) (pv 2) (pe_lst pa_nil) (nomark _)) (pw_or1 (PW.pt (pw_and (pt_cmp (pc_notN (peT K (peM K (pv 2))))) (pw_and1 (pt_cmpR (ltT K hr.units0) (peT K (peM K (pv 2))) (pv 3) (nomark _))))))))
          (pss_one (ps_expr (pe_bm PySem.F.plainAttrs_list PySem.F.slot_list_append PySem.F.type_list_append mt_append (pv 2) (pa_cons (pe_tup (pa_cons (pv 3) (pa_cons (pv 4) pa_nil))) pa_nil))))
          (pss_one (ps_if (PW.pt (pw_and (pt_cmp (pc_notN (peT K (peM K (pv 2))))) (pw_and1 (pt_val (pe_D D1 (hr.mono (by decide)) (by rfl) (pa_cons (pv 4) (pa_cons (peT K (peM K (pv 2))) pa_nil)))))))
            (pss_one (ps_asg (pe_tup (pa_cons (peT K (peM K (pv 2))) (pa_cons (pv 4) pa_nil))) (pg_sub (pv 2) (pe_un un_neg pe_int) set_list))) pss_nil)))))
      (pss_one (ps_ret (pe_callTy (tupK K) (by rfl) (G.free "tuple" (by decide +kernel)) rfl (pa_cons (pv 2) pa_nil))))), ?_⟩
  refine ⟨by decide, fun q hq => ?_⟩
  have g0 : Go T [] H (upd H q (.lst [])) := Go.new hq
  have q0 : upd H q (.lst []) q = some (.lst []) := upd_same
  have hlx := AllS.len ax
  have hly := AllS.len ay
  refine ⟨.ref p1, rfl, .ref p2, rfl, catA_go (T := T) (g0.sqt hp1) (g0.sqt hp2) (by rw [sizeLine_eq]; omega) fun pc H1 g1 hpc => ?_⟩
  have g01 := g0.trans g1
  refine ⟨g01.tabs tabs, fun fl c' H2 g2 nf lf cf => ?_⟩
  have g02 := g01.trans g2
  have aL : AllS (SqT K H2) (xs ++ ys) (R ++ S) := (AllS.app ax ay).go g02
  obtain ⟨ks, k1, k2, k3⟩ := lows_of aL
  refine ⟨fl, c', pc, xs ++ ys, (R ++ S).map (·.1), ks, rfl, rfl, .inr (g2.sqt hpc), k1, k2, lf, cf, fun h H' => ⟨rfl, fun y c h => (by cases h), fun x y c h => (by cases h), fun i y h => (by simp at h)⟩, fun H' i y v hH hy hv Rr hRr => ?_, fun ms p H3 pm pw np g3 hp => ?_⟩
  · obtain ⟨pz, b, rfl, tz⟩ := k3 i y v hy hv
    have gz : Go T [] H2 H' := ⟨fun b o _ e _ => hH b o e, fun b xs e => hH b _ e, fun b o u e => hH b _ e, fun b e => (by
      cases hb : H2 b with
      | none => rfl
      | some o =>
        rw [hH b o hb] at e
        cases e), fun t => t.ext hH⟩
    exact ⟨pz, v, b, rfl, gz.sqt tz, hRr⟩
  obtain ⟨L, pL, zL⟩ := paired_perm pm (zip_lows aL)
  have aZ : AllS (SqT K H3) (ms.map (·.1)) L := (fst_all zL).go g3
  have sL : L.Pairwise (fun p q => p.1 ≤ q.1) := paired_pw (fun x y c d hx hy hxy => by rw [← hx.2, ← hy.2]; exact hxy) zL pw
  obtain ⟨u1, u2, u3⟩ := union_ok cR cS pL sL
  have g03 := g02.trans g3
  have lL : L.length ≤ 10000 := by rw [pL.length_eq, List.length_append]; omega
  generalize ms.map (·.1) = zs at hp aZ
  have lZ := AllS.len aZ
  have hpq : p ≠ q := (ne_of_none (g2.lst (g1.lst q0)) np).symm
  refine ⟨p, rfl, ⟨_, .of hp⟩, ?_⟩
  let Pv : Nat → L2.St → Hp → Prop := fun i σ H' => Go T [] H H' ∧ H' p = some (.lst zs) ∧ AllS (SqT K H') zs L ∧ ∃ (acc : List V) (y3 y4 : Option V) (A : Rg), σ = [some (.ref p1), some (.ref p2), some (.ref q), y3, y4] ∧ H' q = some (.lst acc) ∧ AllS (SqT K H') acc A ∧ A.length ≤ i ∧ A = (L.take i).foldl unS []
  refine for_go (T := T) (it_lst (xs := zs)) Pv ⟨g03, hp, aZ, [], none, none, [], rfl, g3.lst (g2.lst (g1.lst q0)), .nil, Nat.le_refl _, by simp⟩ (fun i σ H' _ h => .of h.2.1) ?_ ?_
  · rintro i x σ H4 H5 hi ⟨g4, hp4, aZ4, acc, y3, y4, AA, rfl, hq4, aA, lA, eA⟩ g5 it
    have g05 := g4.trans g5
    have hp5 := g5.lst hp4
    have hq5 := g5.lst hq4
    have aZ5 := aZ4.go g5
    have aA5 := aA.go g5
    have la := AllS.len aA
    obtain ⟨⟨b, e⟩, hL, pz, vb, ve, rfl, tz, ib, ie⟩ := AllS.at aZ5 it
    have eA' : (L.take (i + 1)).foldl unS [] = unS AA (b, e) := by
      rw [List.take_add_one, hL, List.foldl_append, ← eA]
      rfl
    have iS : ∀ H6, Go T [] H5 H6 → ∀ d, H6 d = some (.tup [vb, ve]) → IsS (SqT K H6) (.ref d) (b, e) := fun H6 g6 d hd => ⟨d, vb, ve, rfl, .of hd, ib.go g6, ie.go g6⟩
    have fin : ∀ (H6 : Hp) (acc' : List V) (A' : Rg), Go T [] H5 H6 → H6 q = some (.lst acc) → acc'.length ≤ i + 1 → AllS (SqT K H6) acc' A' → A' = unS AA (b, e) → Pv (i + 1) [some (.ref p1), some (.ref p2), some (.ref q), some vb, some ve] (upd H6 q (.lst acc')) := fun H6 acc' A' g6 hq6 hl a' e' => by
      have gw : Go T [q] H6 (upd H6 q (.lst acc')) := Go.wr (by simp) hq6
      refine ⟨(g05.trans g6).mut hq hq6, ?_, (aZ5.go g6).go gw, acc', _, _, A', rfl, upd_same, a'.go gw, ?_, by rw [e', eA']⟩
      · rw [upd_ne hpq]
        exact g6.lst hp5
      · rw [← AllS.len a']
        exact hl
    have stay : ∀ (H6 : Hp), Go T [] H5 H6 → AA = unS AA (b, e) → Pv (i + 1) [some (.ref p1), some (.ref p2), some (.ref q), some vb, some ve] H6 := fun H6 g6 e' =>
      ⟨g05.trans g6, g6.lst hp5, aZ5.go g6, acc, _, _, AA, rfl, g6.lst hq5, aA5.go g6, by omega, by rw [eA', ← e']⟩
    refine ⟨pz, _, rfl, tz, rfl, _, _, rfl, _, _, rfl, rfl, ?_⟩
    refine ⟨.ref q, rfl, by decide, fun ce hce => ⟨lstD AA, lstD [], ?_, .lst (.of upd_same) .nil, shaped_lst _, shaped_lst _, _, rfl, ?_⟩⟩
    · exact AllS.lstDp ((Go.new (T := T) (M := []) hce).sql (.of hq5)) (aA5.go (Go.new (T := T) (M := []) hce))
    have g6 : Go T [] H5 (upd H5 ce (.lst [])) := Go.new hce
    have hq6 := g6.lst hq5
    rw [lstD_nil]
    have app : unS AA (b, e) = AA ++ [(b, e)] → ∀ d, upd H5 ce (.lst []) d = none → Pv (i + 1) [some (.ref p1), some (.ref p2), some (.ref q), some vb, some ve] (upd (upd (upd H5 ce (.lst [])) d (.tup [vb, ve])) q (.lst (acc ++ [.ref d]))) := fun hu d hd => by
      have gd : Go T [] (upd H5 ce (.lst [])) (upd (upd H5 ce (.lst [])) d (.tup [vb, ve])) := Go.new hd
      refine fin _ _ (AA ++ [(b, e)]) (g6.trans gd) (gd.lst hq6) (by rw [List.length_append, List.length_singleton]; omega) (AllS.app ((aA5.go g6).go gd) (.cons (iS _ (g6.trans gd) d upd_same) .nil)) hu.symm
    by_cases hA : AA = []
    · rw [decide_eq_true hA]
      refine iteT (iteT ⟨.ref q, rfl, tyL hq6, vb, rfl, ve, rfl, by show 2 ≤ sizeLine; decide, fun d hd => ⟨q, acc, .ref d, rfl, rfl, (Go.new (T := T) (M := []) hd).lst hq6, by rw [sizeLine_eq]; omega, app ?_ d hd⟩⟩)
      rw [hA]
      rfl
    · rw [decide_eq_false hA]
      have hacc : acc ≠ [] := fun z => hA (by
        subst z
        cases aA5
        rfl)
      obtain ⟨acc', lst, rfl⟩ : ∃ acc' l, acc = acc' ++ [l] := by
        rcases List.eq_nil_or_concat acc with z | ⟨l, x, z⟩
        · exact absurd z hacc
        · exact ⟨l, x, by rw [z, List.concat_eq_append]⟩
      obtain ⟨A', ⟨la1, le1⟩, rfl, aA', iL⟩ := AllS.snocInv (aA5.go g6)
      obtain ⟨pl, va, vl, rfl, tl, ia, il⟩ := iL
      have hu := unS_last A' (la1, le1) (b, e)
      refine iteF (last1 rfl hq6 tl ⟨_, rfl, ?_⟩)
      cases le1 with
      | none =>
        cases (show vl = .non from il)
        exact iteF (iteF (last1 rfl hq6 tl ⟨_, rfl, iteF (iteF (stay _ g6 hu.symm))⟩))
      | some h =>
        obtain ⟨pt, rfl, tt, hh⟩ := il
        have ib' := ib
        obtain ⟨pb, rfl, tb', hb'⟩ := ib'
        have hu : unS (A' ++ [(la1, some h)]) (b, e) = if h < b then A' ++ [(la1, some h)] ++ [(b, e)] else if aboveB e h = true then A' ++ [(la1, e)] else A' ++ [(la1, some h)] := hu
        refine iteT (last1 rfl hq6 tl ⟨.ref pb, rfl, pt, pb, vI h, vI b, rfl, rfl, tt, g6.sqt tb', _, rfl, ?_⟩)
        rw [vlt]
        by_cases hlt : h < b
        · rw [decide_eq_true hlt]
          rw [if_pos hlt] at hu
          exact iteT ⟨.ref q, rfl, tyL hq6, .ref pb, rfl, ve, rfl, by show 2 ≤ sizeLine; decide, fun d hd => ⟨q, _, .ref d, rfl, rfl, (Go.new (T := T) (M := []) hd).lst hq6, by rw [sizeLine_eq]; omega, app hu d hd⟩⟩
        · rw [decide_eq_false hlt]
          rw [if_neg hlt] at hu
          refine iteF (last1 rfl hq6 tl ⟨_, rfl, iteT ?_⟩)
          refine ⟨ve, rfl, last1 rfl hq6 tl ⟨ve, .ref pt, e, h, rfl, ie.go g6, ⟨pt, rfl, tt, hh⟩, _, rfl, ?_⟩⟩
          cases hab : aboveB e h with
          | true =>
            rw [if_pos hab] at hu
            refine iteT (last0 rfl hq6 tl ⟨ve, rfl, by show 2 ≤ sizeLine; decide, fun d hd => ⟨.ref q, rfl, 1, rfl, q, _, -1, _, rfl, rfl, (Go.new (T := T) (M := []) hd).lst hq6, ixL1 _ _, ?_⟩⟩)
            rw [setL1]
            have gd : Go T [] (upd H5 ce (.lst [])) (upd (upd H5 ce (.lst [])) d (.tup [va, ve])) := Go.new hd
            refine fin _ _ (A' ++ [(la1, e)]) (g6.trans gd) (gd.lst hq6) ?_ (AllS.app (aA'.go gd) (.cons ⟨d, va, ve, rfl, .of upd_same, ia.go gd, ie.go (g6.trans gd)⟩ .nil)) hu.symm
            rw [List.length_append, List.length_singleton] at la ⊢
            omega
          | false =>
            rw [if_neg (by rw [hab]; exact Bool.false_ne_true)] at hu
            exact iteF (stay _ g6 hu.symm)
  · rintro σ H4 ⟨g4, hp4, aZ4, acc, y3, y4, AA, rfl, hq4, aA, lA, eA⟩
    have e1 : (L.take zs.length).foldl unS [] = L.foldl unS [] := by rw [List.take_of_length_le (by omega)]
    rw [e1] at eA
    subst eA
    refine ⟨.ref q, rfl, q, acc, rfl, .inl ⟨.of hq4, fun d hd => qq _ _ _ (g4.trans (Go.new hd)) ⟨d, acc, rfl, .of upd_same, aA.go (Go.new (T := T) (M := []) hd)⟩ u1 u2 u3⟩⟩
end
end K3

namespace K3
open PySem PySem.Spec PyProof.Rows L2
theorem rest_in {R : Rg} (c : Can 0 R) (x : Nat) : inR x (restR R) = !inR x R := restF_in R 0 x c (Nat.zero_le _)
theorem rest_can {R : Rg} (c : Can 0 R) : Can 0 (restR R) := restF_can R 0 c
theorem rest_len (R : Rg) : (restR R).length ≤ R.length + 1 := restF_len R 0
section
variable {P : Program} {w : World} {K : PySem.W.Frag} {mg : Str → Option Value} {base : Heap} {T : Tbl}
/-- two ranges in; a range out that is the set f of them, of at most n more stretches -/
def spTwo (f : Bool → Bool → Bool) (n m : Nat) (T : Tbl) (K : PySem.W.Frag) : Sp := fun vs H Q _ => ∃ v u R S, vs = [v, u] ∧ IsR (SqT K H) v R ∧ IsR (SqT K H) u S ∧ Can 0 R ∧ Can 0 S ∧ R.length ≤ m ∧ S.length ≤ m ∧ LamX.Tabs T H ∧
  ∀ v H' R', Go T [] H H' → IsR (SqT K H') v R' → Can 0 R' → (∀ x, inR x R' = f (inR x R) (inR x S)) → R'.length ≤ R.length + S.length + n → Q v H'
abbrev spMeet := spTwo (fun a b => a && b) 3 1001
abbrev spWithout := spTwo (fun a b => a && !b) 4 1000
theorem ok_meet (D : Top K mg "meet" s_meet) (D1 : DefF P w K mg base 3 "rest" ["one"] (spRest T K)) (D2 : DefF P w K mg base 4 "union" ["one", "other"] (spUnion T K)) : DefF P w K mg base 5 "meet" ["one", "other"] (spMeet T K) := by
  refine def_of D sc_meet bd_meet (fun vs H Q E ⟨_, _, _, _, e, _⟩ => by rw [e]; rfl) ?_
  rintro f cdv A outer s H vs Q E hr ⟨v, u, R, S, rfl, hv, hu, cR, cS, lR, lS, tabs, qq⟩
  refine ⟨_, pss_one (ps_ret (pe_D D1 (hr.mono (by decide)) (by rfl) (pa_cons (pe_D D2 hr (by rfl) (pa_cons (pe_D D1 (hr.mono (by decide)) (by rfl) (pa_cons (pv 0) pa_nil)) (pa_cons (pe_D D1 (hr.mono (by decide)) (by rfl) (pa_cons (pv 1) pa_nil)) pa_nil))) pa_nil))), ?_⟩
  have l1 := rest_len R
  have l2 := rest_len S
  refine ⟨v, rfl, v, R, rfl, hv, by omega, fun x1 H1 g1 h1 => ⟨u, rfl, u, S, rfl, hu.go g1, by omega, fun x2 H2 g2 h2 => ?_⟩⟩
  refine ⟨x1, x2, restR R, restR S, rfl, h1.go g2, h2, rest_can cR, rest_can cS, by omega, by omega, g2.tabs (g1.tabs tabs), fun x3 H3 U g3 h3 cU eU lU => ?_⟩
  have l3 := rest_len U
  refine ⟨x3, U, rfl, h3, by omega, fun x4 H4 g4 h4 => qq x4 H4 (restR U) (((g1.trans g2).trans g3).trans g4) h4 (rest_can cU) (fun x => ?_) (by omega)⟩
  rw [rest_in cU, eU, rest_in cR, rest_in cS]
  cases inR x R <;> cases inR x S <;> rfl
theorem ok_without (D : Top K mg "without" s_without) (D1 : DefF P w K mg base 3 "rest" ["one"] (spRest T K)) (D2 : DefF P w K mg base 5 "meet" ["one", "other"] (spMeet T K)) : DefF P w K mg base 6 "without" ["one", "other"] (spWithout T K) := by
  refine def_of D sc_without bd_without (fun vs H Q E ⟨_, _, _, _, e, _⟩ => by rw [e]; rfl) ?_
  rintro f cdv A outer s H vs Q E hr ⟨v, u, R, S, rfl, hv, hu, cR, cS, lR, lS, tabs, qq⟩
  refine ⟨_, pss_one (ps_ret (pe_D D2 hr (by rfl) (pa_cons (pv 0) (pa_cons (pe_D D1 (hr.mono (by decide)) (by rfl) (pa_cons (pv 1) pa_nil)) pa_nil)))), ?_⟩
  have l2 := rest_len S
  refine ⟨v, rfl, u, rfl, u, S, rfl, hu, by omega, fun x2 H2 g2 h2 => ?_⟩
  refine ⟨v, x2, R, restR S, rfl, hv.go g2, h2, cR, rest_can cS, by omega, by omega, g2.tabs tabs, fun x3 H3 U g3 h3 cU eU lU => qq x3 H3 U (g2.trans g3) h3 cU (fun x => ?_) (by omega)⟩
  rw [eU, rest_in cS]
theorem can_nil_iff {R : Rg} (c : Can 0 R) : R = [] ↔ ∀ x, inR x R = false := by
  constructor
  · rintro rfl x
    rfl
  · intro h
    exact can_uniq c (show Can 0 [] from trivial) fun x => (h x).trans rfl
def spWithin (T : Tbl) (K : PySem.W.Frag) : Sp := fun vs H Q _ => ∃ v u R S, vs = [v, u] ∧ IsR (SqT K H) v R ∧ IsR (SqT K H) u S ∧ Can 0 R ∧ Can 0 S ∧ R.length ≤ 1000 ∧ S.length ≤ 1000 ∧ LamX.Tabs T H ∧
  ∀ b H', Go T [] H H' → (b = true ↔ ∀ x, inR x R = true → inR x S = true) → Q (.bl b) H'
theorem ok_is_within (D : Top K mg "is_within" s_is_within) (D1 : DefF P w K mg base 6 "without" ["one", "other"] (spWithout T K)) : DefF P w K mg base 7 "is_within" ["one", "other"] (spWithin T K) := by
  refine def_of D sc_is_within bd_is_within (fun vs H Q E ⟨_, _, _, _, e, _⟩ => by rw [e]; rfl) ?_
  rintro f cdv A outer s H vs Q E hr ⟨v, u, R, S, rfl, hv, hu, cR, cS, lR, lS, tabs, qq⟩
  refine ⟨_, pss_one (ps_ret (pe_cmpR (eqD K hr.units) (pe_D D1 hr (by rfl) (pa_cons (pv 0) (pa_cons (pv 1) pa_nil))) (pe_tup pa_nil) (nomark _))), ?_⟩
  refine ⟨v, rfl, u, rfl, v, u, R, S, rfl, hv, hu, cR, cS, lR, lS, tabs, fun x H1 U g1 h1 cU eU lU => ⟨by decide, fun a ha => ⟨rngD U, rngD [], (h1.go (T := T) (M := []) (Go.new ha)).dp, .tup (.of upd_same) .nil, shaped_rng U, shaped_rng [], ?_⟩⟩⟩
  rw [rngD_eqv]
  refine qq _ _ (g1.trans (Go.new ha)) ?_
  rw [decide_eq_true_iff, can_nil_iff cU]
  refine forall_congr' fun z => ?_
  rw [eU]
  cases inR z R <;> cases inR z S <;> simp
def spParting (T : Tbl) (K : PySem.W.Frag) : Sp := fun vs H Q _ => ∃ v u R S, vs = [v, u] ∧ IsR (SqT K H) v R ∧ IsR (SqT K H) u S ∧ Can 0 R ∧ Can 0 S ∧ R.length ≤ 1000 ∧ S.length ≤ 1000 ∧ LamX.Tabs T H ∧
  ∀ v H' D, Go T [] H H' → Can 0 D → (∀ x, inR x D = (inR x R != inR x S)) → IsE (SqT K H') v (D.head?.map (·.1)) → Q v H'
theorem ok_parting_version (D : Top K mg "parting_version" s_parting_version) (D1 : DefF P w K mg base 6 "without" ["one", "other"] (spWithout T K)) (D2 : DefF P w K mg base 4 "union" ["one", "other"] (spUnion T K)) (D3 : DefF P w K mg base 1 "least_in" ["one"] (spLeast T K)) :
    DefF P w K mg base 7 "parting_version" ["one", "other"] (spParting T K) := by
  refine def_of D sc_parting_version bd_parting_version (fun vs H Q E ⟨_, _, _, _, e, _⟩ => by rw [e]; rfl) ?_
  rintro f cdv A outer s H vs Q E hr ⟨v, u, R, S, rfl, hv, hu, cR, cS, lR, lS, tabs, qq⟩
  refine ⟨_, pss_one (ps_ret (pe_D D3 (hr.mono (by decide)) (by rfl) (pa_cons (pe_D D2 (hr.mono (by decide)) (by rfl) (pa_cons (pe_D D1 hr (by rfl) (pa_cons (pv 0) (pa_cons (pv 1) pa_nil))) (pa_cons (pe_D D1 hr (by rfl) (pa_cons (pv 1) (pa_cons (pv 0) pa_nil))) pa_nil))) pa_nil))), ?_⟩
  refine ⟨v, rfl, u, rfl, v, u, R, S, rfl, hv, hu, cR, cS, lR, lS, tabs, fun x1 H1 U1 g1 h1 c1 e1 l1 => ?_⟩
  refine ⟨u, rfl, v, rfl, u, v, S, R, rfl, hu.go g1, hv.go g1, cS, cR, lS, lR, g1.tabs tabs, fun x2 H2 U2 g2 h2 c2 e2 l2 => ?_⟩
  refine ⟨x1, x2, U1, U2, rfl, h1.go g2, h2, c1, c2, by omega, by omega, g2.tabs (g1.tabs tabs), fun x3 H3 U3 g3 h3 c3 e3 l3 => ?_⟩
  refine ⟨x3, U3, rfl, h3, fun x4 H4 g4 h4 => qq x4 H4 U3 (((g1.trans g2).trans g3).trans g4) c3 (fun x => ?_) h4⟩
  rw [e3, e1, e2]
  cases inR x R <;> cases inR x S <;> rfl
end
end K3

/-! ranges as texts -/
namespace K3
open PySem PySem.Spec PyProof.Rows L2
open SX (S)
abbrev cs (s : String) : List Nat := s.toList.map Char.toNat
theorem S_str (s : String) : Str.ofString s = S (cs s) := by
  show _ = S (s.toList.map Char.toNat)
  rw [← TL.tl_ofString]
def dotL (n : Nat) : List Nat := TL.joinL [46] [TL.numL (n / 1000000000000), TL.numL (n / 1000000 % 1000000), TL.numL (n % 1000000)]
def segW : Sg → List (List Nat)
  | (l, e) => if e = nxt l then [dotL l] else match e with
    | none => [cs "from", dotL l]
    | some h => if l = 0 then [cs "below", dotL h] else [cs "from", dotL l, cs "and", cs "below", dotL h]
theorem segW_eq (l : Nat) (e : Option Nat) : segW (l, e) = if e = nxt l then [dotL l] else match e with
    | none => [cs "from", dotL l]
    | some h => if l = 0 then [cs "below", dotL h] else [cs "from", dotL l, cs "and", cs "below", dotL h] := rfl
def orW : Rg → List (List Nat)
  | [] => []
  | [s] => segW s
  | s :: t :: r => segW s ++ cs "or" :: orW (t :: r)
def rngW (R : Rg) : List (List Nat) := if R = [(0, none)] then [cs "all"] else if R = [] then [cs "none"] else orW R
def segT (s : Sg) : List Nat := TL.joinL [32] (segW s)
def rngT (R : Rg) : List Nat := TL.joinL [32] (rngW R)
theorem joinL_app (p : List Nat) : ∀ (A B : List (List Nat)), A ≠ [] → B ≠ [] → TL.joinL p (A ++ B) = TL.joinL p A ++ (p ++ TL.joinL p B)
  | [], _, h, _ => absurd rfl h
  | [a], b :: B, _, _ => rfl
  | a :: a' :: A, B, _, hB => by
    show a ++ (p ++ TL.joinL p ((a' :: A) ++ B)) = (a ++ (p ++ TL.joinL p (a' :: A))) ++ (p ++ TL.joinL p B)
    rw [joinL_app p (a' :: A) B (by simp) hB]
    simp only [List.append_assoc]
theorem segW_ne (s : Sg) : segW s ≠ [] := by
  obtain ⟨l, e⟩ := s
  rw [segW_eq]
  split
  · simp
  · cases e with
    | none => simp
    | some h =>
      simp only
      split <;> simp
theorem orW_ne : ∀ R : Rg, R ≠ [] → orW R ≠ []
  | [], h => absurd rfl h
  | [s], _ => segW_ne s
  | s :: t :: r, _ => by
    show segW s ++ cs "or" :: orW (t :: r) ≠ []
    simp
theorem or_join : ∀ R : Rg, R ≠ [] → TL.joinL (cs " or ") (R.map segT) = TL.joinL [32] (orW R)
  | [], h => absurd rfl h
  | [s], _ => rfl
  | s :: t :: r, _ => by
    show segT s ++ (cs " or " ++ TL.joinL (cs " or ") ((t :: r).map segT)) = TL.joinL [32] (segW s ++ cs "or" :: orW (t :: r))
    rw [or_join (t :: r) (by simp), joinL_app [32] (segW s) (cs "or" :: orW (t :: r)) (segW_ne s) (by simp)]
    have e : TL.joinL [32] (cs "or" :: orW (t :: r)) = cs "or" ++ ([32] ++ TL.joinL [32] (orW (t :: r))) := by
      cases h : orW (t :: r) with
      | nil => exact absurd h (orW_ne _ (by simp))
      | cons a A => rfl
    rw [e]
    rfl
/-- a word: no blank in it, no bracket -/
def WordOk (p : List Nat) : Prop := p ≠ [] ∧ ∀ c ∈ p, c ≠ 32 ∧ c ≠ 40 ∧ c ≠ 41 ∧ c < 128
theorem num_ok (n : Nat) : WordOk (TL.numL n) := ⟨TL.numL_ne n, fun c hc => by
  have h1 : ¬ c < 48 := fun z => TL.numL_free (.inl z) hc
  have h2 : ¬ 57 < c := fun z => TL.numL_free (.inr z) hc
  omega⟩
theorem dot_ok (n : Nat) : WordOk (dotL n) := by
  unfold dotL
  refine ⟨?_, fun c hc => ?_⟩
  · show TL.numL _ ++ _ ≠ []
    intro h
    exact TL.numL_ne _ (List.append_eq_nil_iff.mp h).1
  · have hc : c ∈ TL.numL (n / 1000000000000) ++ ([46] ++ (TL.numL (n / 1000000 % 1000000) ++ ([46] ++ TL.numL (n % 1000000)))) := hc
    rcases List.mem_append.mp hc with h | h
    · exact (num_ok _).2 c h
    · rcases List.mem_append.mp h with h | h
      · obtain rfl := List.mem_singleton.mp h
        decide
      · rcases List.mem_append.mp h with h | h
        · exact (num_ok _).2 c h
        · rcases List.mem_append.mp h with h | h
          · obtain rfl := List.mem_singleton.mp h
            decide
          · exact (num_ok _).2 c h
theorem lit_ok {p : List Nat} (h : (!p.isEmpty && p.all fun c => decide (c ≠ 32) && (decide (c ≠ 40) && (decide (c ≠ 41) && decide (c < 128)))) = true) : WordOk p := by
  rw [Bool.and_eq_true, List.all_eq_true] at h
  refine ⟨fun e => by rw [e] at h; exact absurd h.1 (by decide), fun c hc => ?_⟩
  have z := h.2 c hc
  simp only [Bool.and_eq_true, decide_eq_true_eq] at z
  exact z
theorem segW_ok (s : Sg) : ∀ p ∈ segW s, WordOk p := by
  obtain ⟨l, e⟩ := s
  have hf : WordOk (cs "from") := lit_ok (by decide +kernel)
  have hb : WordOk (cs "below") := lit_ok (by decide +kernel)
  have ha : WordOk (cs "and") := lit_ok (by decide +kernel)
  rw [segW_eq]
  split
  · intro p hp
    rw [List.mem_singleton.mp hp]
    exact dot_ok l
  · cases e with
    | none =>
      intro p hp
      simp only [List.mem_cons, List.not_mem_nil, or_false] at hp
      rcases hp with rfl | rfl
      · exact hf
      · exact dot_ok l
    | some h =>
      simp only
      split
      · intro p hp
        simp only [List.mem_cons, List.not_mem_nil, or_false] at hp
        rcases hp with rfl | rfl
        · exact hb
        · exact dot_ok h
      · intro p hp
        simp only [List.mem_cons, List.not_mem_nil, or_false] at hp
        rcases hp with rfl | rfl | rfl | rfl | rfl
        · exact hf
        · exact dot_ok l
        · exact ha
        · exact hb
        · exact dot_ok h
theorem orW_ok : ∀ R : Rg, ∀ p ∈ orW R, WordOk p
  | [], _, h => by cases h
  | [s], p, h => segW_ok s p h
  | s :: t :: r, p, h => by
    have h : p ∈ segW s ++ cs "or" :: orW (t :: r) := h
    rcases List.mem_append.mp h with h | h
    · exact segW_ok s p h
    · rcases List.mem_cons.mp h with rfl | h
      · exact lit_ok (by decide +kernel)
      · exact orW_ok (t :: r) p h
theorem rngW_ok (R : Rg) : ∀ p ∈ rngW R, WordOk p := by
  unfold rngW
  split
  · intro p hp
    rw [List.mem_singleton.mp hp]
    exact lit_ok (by decide +kernel)
  · split
    · intro p hp
      rw [List.mem_singleton.mp hp]
      exact lit_ok (by decide +kernel)
    · exact orW_ok R
theorem rngW_ne (R : Rg) : rngW R ≠ [] := by
  unfold rngW
  split
  · simp
  · split
    · simp
    · exact orW_ne R (by assumption)
theorem join_mem {p : List Nat} {c : Nat} : ∀ {l : List (List Nat)}, c ∈ TL.joinL p l → c ∈ p ∨ ∃ q ∈ l, c ∈ q
  | [], h => by cases h
  | [q], h => .inr ⟨q, by simp, h⟩
  | q :: q' :: l, h => by
    have h : c ∈ q ++ (p ++ TL.joinL p (q' :: l)) := h
    rcases List.mem_append.mp h with h | h
    · exact .inr ⟨q, by simp, h⟩
    · rcases List.mem_append.mp h with h | h
      · exact .inl h
      · rcases join_mem h with h | ⟨z, hz, h⟩
        · exact .inl h
        · exact .inr ⟨z, List.mem_cons_of_mem _ hz, h⟩
theorem segT_lt (s : Sg) : ∀ c ∈ segT s, c < 128 := fun c h => by
  rcases join_mem h with h | ⟨z, hz, h⟩
  · rw [List.mem_singleton.mp h]
    decide
  · exact ((segW_ok s z hz).2 c h).2.2.2
theorem rngT_ok (R : Rg) : ∀ c ∈ rngT R, c ≠ 40 ∧ c ≠ 41 ∧ c < 128 := fun c h => by
  rcases join_mem h with h | ⟨z, hz, h⟩
  · rw [List.mem_singleton.mp h]
    decide
  · exact ((rngW_ok R z hz).2 c h).2
theorem segW_len (s : Sg) : (segW s).length ≤ 5 := by
  obtain ⟨l, e⟩ := s
  rw [segW_eq]
  split
  · simp
  · cases e with
    | none => simp
    | some h =>
      simp only
      split <;> simp
theorem orW_len : ∀ R : Rg, (orW R).length ≤ 6 * R.length
  | [] => Nat.zero_le _
  | [s] => by
    have := segW_len s
    show (segW s).length ≤ 6
    omega
  | s :: t :: r => by
    have h1 := segW_len s
    have h2 := orW_len (t :: r)
    show (segW s ++ cs "or" :: orW (t :: r)).length ≤ _
    rw [List.length_append, List.length_cons]
    simp only [List.length_cons] at h2 ⊢
    omega
theorem rngW_len (R : Rg) : (rngW R).length ≤ 6 * R.length + 1 := by
  unfold rngW
  split
  · simp
  · split
    · simp
    · have := orW_len R
      omega
theorem num_len {n : Nat} (h : n < 1000000) : (TL.numL n).length ≤ 6 := TL.numL_len (by decide) h
theorem dot_len {n : Nat} (h : n < MX) : (dotL n).length ≤ 20 := by
  unfold MX at h
  unfold dotL
  show (TL.numL _ ++ ([46] ++ (TL.numL _ ++ ([46] ++ TL.numL _)))).length ≤ 20
  have h1 := num_len (n := n / 1000000000000) (by omega)
  have h2 := num_len (n := n / 1000000 % 1000000) (by omega)
  have h3 := num_len (n := n % 1000000) (by omega)
  simp only [List.length_append, List.length_singleton]
  omega
/-- all ends of a range are versions -/
def Small (R : Rg) : Prop := ∀ s ∈ R, s.1 < MX ∧ ∀ h, s.2 = some h → h < MX
theorem segW_small {s : Sg} (h : s.1 < MX) (k : ∀ h, s.2 = some h → h < MX) : ∀ p ∈ segW s, p.length ≤ 20 := by
  obtain ⟨l, e⟩ := s
  have d1 := dot_len h
  rw [segW_eq]
  split
  · intro p hp
    rw [List.mem_singleton.mp hp]
    exact d1
  · cases e with
    | none =>
      intro p hp
      simp only [List.mem_cons, List.not_mem_nil, or_false] at hp
      rcases hp with rfl | rfl
      · decide +kernel
      · exact d1
    | some m =>
      have d2 := dot_len (k m rfl)
      simp only
      split
      · intro p hp
        simp only [List.mem_cons, List.not_mem_nil, or_false] at hp
        rcases hp with rfl | rfl
        · decide +kernel
        · exact d2
      · intro p hp
        simp only [List.mem_cons, List.not_mem_nil, or_false] at hp
        rcases hp with rfl | rfl | rfl | rfl | rfl
        · decide +kernel
        · exact d1
        · decide +kernel
        · decide +kernel
        · exact d2
theorem join_len (p : List Nat) : ∀ l : List (List Nat), (∀ q ∈ l, q.length ≤ 150) → (TL.joinL p l).length ≤ (150 + p.length) * l.length
  | [], _ => Nat.zero_le _
  | [q], h => by
    have := h q (by simp)
    show q.length ≤ _
    simp only [List.length_singleton, Nat.mul_one]
    omega
  | q :: q' :: l, h => by
    have h1 := h q (by simp)
    have h2 := join_len p (q' :: l) fun z hz => h z (List.mem_cons_of_mem _ hz)
    show (q ++ (p ++ TL.joinL p (q' :: l))).length ≤ _
    rw [List.length_append, List.length_append, List.length_cons (a := q), Nat.mul_succ]
    omega
theorem segT_len {s : Sg} (h : s.1 < MX) (k : ∀ h, s.2 = some h → h < MX) : (segT s).length ≤ 1000 := by
  have h1 := join_len [32] (segW s) fun q hq => Nat.le_trans (segW_small h k q hq) (by decide)
  have h2 := segW_len s
  unfold segT
  refine Nat.le_trans h1 ?_
  have : (150 + [32].length) * (segW s).length ≤ 151 * 5 := Nat.mul_le_mul_left _ h2
  omega
end K3

namespace K3
open PySem PySem.Spec PyProof.Rows L2
open SX (S)
theorem map_of {α : Type} {f : α → V} {l : List α} {ys : List V} (pr : Paired (fun (i : Nat) y => ∃ m, l[i]? = some m ∧ y = f m) (List.range l.length) ys) : ys = l.map f := by
  have hl := Paired.lenEq pr
  rw [List.length_range] at hl
  refine List.ext_getElem (by rw [hl, List.length_map]) fun i h1 h2 => ?_
  obtain ⟨m, e, z⟩ := Paired.all pr i i ys[i] (by rw [List.getElem?_range (by omega)]) (List.getElem?_eq_getElem h1)
  rw [z, List.getElem_map]
  rw [List.getElem?_eq_getElem (by omega)] at e
  rw [Option.some.inj e]
theorem occ_empty (a : Str) (c limit : Nat) (h : c ∉ a.cps.toList) : Builtin.Str.occurrences a ⟨#[c]⟩ 0 a.length limit = [] := by
  rw [StrLaws.occ_eq]
  have key : ∀ (l : List Nat) (free : Nat), (forIn l ((#[] : Array Nat), free) (StrLaws.occBody a ⟨#[c]⟩ a.length limit)).run.fst = #[] := by
    intro l
    induction l with
    | nil => intro free; rfl
    | cons i l ih =>
      intro free
      rw [List.forIn_cons]
      unfold StrLaws.occBody
      rw [if_neg]
      · exact ih free
      · rintro ⟨⟨_, h1⟩, h2⟩
        exact h (List.mem_of_getElem? ((StrLaws.subAt_one a c i).mp ⟨h1, h2⟩))
  rw [key]
/-- a sign that does not stand in the text -/
def rRepl0 : V → List V → Hp → VK → Prop := fun x xs H Q => ∃ a c z, x = .str a ∧ xs = [.str ⟨#[c]⟩, .str z] ∧ c ∉ a.cps.toList ∧ Q (.str a) H
theorem mt_repl0 {X : Cx} : MtR X "str.replace" rRepl0 := by
  intro pins s σ H x xs v us Q I rx rv h
  obtain ⟨a, c, z, rfl, rfl, hc, q⟩ := h
  obtain ⟨u1, u2, rfl, r1, r2⟩ := vals2 rv
  obtain ⟨t, rfl⟩ := rx
  obtain ⟨t1, rfl⟩ := r1
  obtain ⟨t2, rfl⟩ := r2
  have e := occ_empty a c (a.length + 1) hc
  have g := gives_str_replace a ⟨#[c]⟩ z t t1 t2 (fun h => by rw [e] at h; exact absurd h (by simp))
  rw [e] at g
  simp only [List.isEmpty_nil, Bool.true_or, if_true] at g
  exact call_gives F.slot_str_replace (typeIs_str _ _ _) F.entry_str_replace (F.args_str_replace_3 _ _ _) g ⟨.str a, H, I, ⟨t, rfl⟩, q⟩
abbrev vN (n : Nat) : List Nat := [n / 1000000000000, n / 1000000 % 1000000, n % 1000000]
theorem vI_vN (n : Nat) : (vI n).map V.int = (vN n).map fun m => V.int ((m : Nat) : Int) := rfl
theorem vN_lt {n : Nat} (h : n < MX) : ∀ m ∈ vN n, m < 1000000 := fun m hm => by
  unfold MX at h
  simp only [List.mem_cons, List.not_mem_nil, or_false] at hm
  rcases hm with rfl | rfl | rfl <;> omega
theorem dot_join (n : Nat) : Txt.join (S [46]) ((vN n).map fun m => S (TL.numL m)) = S (dotL n) := by
  have e : ((vN n).map fun m => S (TL.numL m)) = ((vN n).map TL.numL).map S := rfl
  rw [e, SX.join_S]
  rfl
theorem log_small {m : Nat} (h : m < 1000000) : ((m : Int)).natAbs.log2 < 1920 := by
  have e : ((m : Int)).natAbs = m := by omega
  rw [e]
  rcases Nat.eq_zero_or_pos m with rfl | h0
  · decide
  · refine Nat.lt_of_lt_of_le ((Nat.log2_lt (by omega)).mpr (Nat.lt_trans h (show 1000000 < 2 ^ 20 by decide))) (by decide)
section
variable {P : Program} {w : World} {K : PySem.W.Frag} {mg : Str → Option Value} {base : Heap} {T : Tbl}
def spShow (T : Tbl) (K : PySem.W.Frag) : Sp := fun vs H Q _ => ∃ v n, vs = [v] ∧ IsV (SqT K H) v n ∧ ∀ H', Go T [] H H' → Q (.str (S (dotL n))) H'
theorem show_run {X : Cx} {e : Expr} {σ : L2.St} {H : Hp} {n : Nat} {p : Addr} {Q : VK} {i j : Nat} (hn : n < MX) (hp : SqT K H p ((vI n).map V.int)) (hσ : σ[i]? = some (some (.ref p))) (hset : ∀ x, wipe ((wipe σ [j]).set j (some x)) [j] = wipe σ [j]) (hj : ∀ x, ((wipe σ [j]).set j (some x))[j]? = some (some x))
    (hK : X.K = K) (q : ∀ H', Go T [] H H' → Q (.str (S (dotL n))) H') :
    tM1 (fun x xs H Q => ∃ a p, ∃ ys : List Str, x = .str a ∧ xs = [.ref p] ∧ (SqL X.K H p (ys.map V.str) ∨ SqT X.K H p (ys.map V.str)) ∧ (ys.map (·.length)).sum + ys.length * a.length ≤ 16777216 ∧ Q (.str (Txt.join a ys)) H)
      (tC (.str (Str.ofString "."))) (tLcW (iTup X.K (tVar i)) (gName j) tYes (tCB (fun xs H Q => ∃ i, xs = [.int i] ∧ i.natAbs.log2 < 1920 ∧ Q (.str (Str.ofString (toString i))) H) (tCons (tVar j) tNil)) [j]) σ H Q := by
  subst hK
  refine ⟨⟨_, rfl⟩, .ref p, hσ, p, rfl, ⟨_, hp⟩, ?_⟩
  refine lc_go (T := T) (M := []) (it_tup (xs := (vI n).map V.int)) (fun _ => true) (fun i y _ => ∃ m, (vN n)[i]? = some m ∧ y = .str (S (TL.numL m))) (fun _ _ => True) (show 3 < sizeLine by decide) (fun b m => by cases m) (fun q H' hq g => g.sqt hp) (fun i y q H' H'' _ _ e => e) (fun i x H' Kc Kn hi g it kc _ => ?_) fun q' ys H' hq g hl pr => ?_
  · rw [vI_vN, List.getElem?_map] at it
    cases hm : (vN n)[i]? with
    | none => rw [hm] at it; cases it
    | some m =>
      rw [hm] at it
      obtain rfl : V.int ((m : Nat) : Int) = x := Option.some.inj it
      refine ⟨hset _, lc_yes ⟨_, hj _, (m : Int), rfl, log_small (vN_lt hn m (List.mem_of_getElem? hm)), kc _ _ rfl Go.refl ⟨m, hm, ?_⟩ fun _ _ _ => trivial⟩⟩
      rw [← SX.num_S]
  · rw [keep_all] at pr
    have e := map_of (l := vN n) pr
    refine ⟨_, q', (vN n).map fun m => S (TL.numL m), rfl, rfl, .inl (.of (by rw [hl, e, List.map_map]; rfl)), ?_, ?_⟩
    · have h1 := num_len (vN_lt hn (n / 1000000000000) (by simp))
      have h2 := num_len (vN_lt hn (n / 1000000 % 1000000) (by simp))
      have h3 := num_len (vN_lt hn (n % 1000000) (by simp))
      have e1 : (Str.ofString ".").length = 1 := by decide
      simp only [vN, List.map_cons, List.map_nil, List.sum_cons, List.sum_nil, List.length_cons, List.length_nil, SX.S_len, e1]
      omega
    · have e2 : Str.ofString "." = S [46] := S_str "."
      rw [e2, dot_join]
      exact q _ g
theorem ok_show_version (G : Glo K mg) (D : Top K mg "show_version" s_show_version) : DefF P w K mg base 1 "show_version" ["version"] (spShow T K) := by
  refine def_of D sc_show_version bd_show_version (fun vs H Q E ⟨_, _, e, _⟩ => by rw [e]; rfl) ?_
  rintro f cdv A outer s H vs Q E hr ⟨v, n, rfl, ⟨p, rfl, hp, hn⟩, qq⟩
  refine ⟨_, pss_one (ps_ret (pe_join pe_str (pe_lcW (own := [("number", 1)]) sc_show_version.nd (blkOk_by (N := n_show_version) (sc := defScope s_show_version) (by decide +kernel)) (pi_tup (pv 0)) (fun s' H' C cl fp => pg_name (i := 1) sc_show_version.nd rfl (.inl rfl)) (fun s' H' C cl fp => pts_nil)
    (fun s' H' C cl fp => pe_callTy call_str_int (by rfl) (G.free "str" (by decide +kernel)) rfl (pa_cons (pv 1) pa_nil))))), ?_⟩
  exact show_run (e := .Constant .none 0 ⟨0, 0, 0, 0⟩) hn hp rfl (fun _ => rfl) (fun _ => rfl) rfl qq
theorem ok_l_said (G : Glo K mg) (D : Top K mg "_law_said" s_l_said) : DefF P w K mg base 1 "_law_said" ["_law_version_here"] (spShow T K) := by
  refine def_of D sc_l_said bd_l_said (fun vs H Q E ⟨_, _, e, _⟩ => by rw [e]; rfl) ?_
  rintro f cdv A outer s H vs Q E hr ⟨v, n, rfl, ⟨p, rfl, hp, hn⟩, qq⟩
  refine ⟨_, pss_one (ps_ret (pe_join pe_str (pe_lcW (own := [("_law_part", 1)]) sc_l_said.nd (blkOk_by (N := n_l_said) (sc := defScope s_l_said) (by decide +kernel)) (pi_tup (pv 0)) (fun s' H' C cl fp => pg_name (i := 1) sc_l_said.nd rfl (.inl rfl)) (fun s' H' C cl fp => pts_nil)
    (fun s' H' C cl fp => pe_callTy call_str_int (by rfl) (G.free "str" (by decide +kernel)) rfl (pa_cons (pv 1) pa_nil))))), ?_⟩
  exact show_run (e := .Constant .none 0 ⟨0, 0, 0, 0⟩) hn hp rfl (fun _ => rfl) (fun _ => rfl) rfl qq
end
end K3

namespace K3
open PySem PySem.Spec PyProof.Rows L2
open SX (S)
theorem num6 : (TL.numL 999999).length = 6 := by decide +kernel
theorem num_digit {n c : Nat} (h : c ∈ TL.numL n) : 48 ≤ c ∧ c ≤ 57 := by
  refine ⟨?_, ?_⟩
  · rcases Nat.lt_or_ge c 48 with z | z
    · exact absurd h (TL.numL_free (.inl z))
    · exact z
  · rcases Nat.lt_or_ge 57 c with z | z
    · exact absurd h (TL.numL_free (.inr z))
    · exact z
theorem digits_has {c : Nat} (h : 48 ≤ c ∧ c ≤ 57) : decide (c ∈ (Str.ofString "0123456789").cps.toList) = true := by
  have e : (Str.ofString "0123456789").cps.toList = cs "0123456789" := TL.tl_ofString _
  rw [e, decide_eq_true_iff]
  have e2 : cs "0123456789" = [48, 49, 50, 51, 52, 53, 54, 55, 56, 57] := by decide
  rw [e2]
  simp only [List.mem_cons, List.not_mem_nil, or_false]
  omega
theorem dot_split (n : Nat) : Txt.split (S (dotL n)) (S [46]) = ((vN n).map TL.numL).map S := by
  rw [SX.split_S (by simp) (by decide)]
  congr 1
  exact SX.spl_join (sep := []) (parts := (vN n).map TL.numL) (by simp) fun p hp => by
    obtain ⟨m, _, rfl⟩ := List.mem_map.mp hp
    exact TL.numL_free (.inl (by decide))
theorem sum_le {l : List Nat} {b : Nat} (h : ∀ x ∈ l, x ≤ b) : l.sum ≤ l.length * b := by
  induction l with
  | nil => simp
  | cons x l ih =>
    have h1 := h x (by simp)
    have h2 := ih fun y hy => h y (List.mem_cons_of_mem _ hy)
    rw [List.sum_cons, List.length_cons, Nat.succ_mul]
    omega
section
variable {P : Program} {w : World} {K : PySem.W.Frag} {mg : Str → Option Value} {base : Heap} {T : Tbl}
def spNum (T : Tbl) : Sp := fun vs H Q _ => ∃ n : Nat, vs = [.str (S (TL.numL n))] ∧ n < 1000000 ∧ ∀ H', Go T [] H H' → Q (.int (n : Int)) H'
theorem ok_number_in (G : Glo K mg) (D : Top K mg "number_in" s_number_in) : DefF P w K mg base 1 "number_in" ["word"] (spNum T) := by
  refine def_of D sc_number_in bd_number_in (fun vs H Q E ⟨_, e, _⟩ => by rw [e]; rfl) ?_
  rintro f cdv A outer s H vs Q E hr ⟨n, rfl, hn, qq⟩
  obtain ⟨tm, hm⟩ := G.most
  obtain ⟨td, hd⟩ := G.dig
  refine ⟨_, pss_cons (ps_if (PW.pt (pw_or (pt_not (pt_chain op_le op_le pe_int (pe_callB (lenK K) (by rfl) (G.free "len" (by decide +kernel)) rfl (pa_cons (pv 0) pa_nil))
        (pe_callB (lenK K) (by rfl) (G.free "len" (by decide +kernel)) rfl (pa_cons (pe_callTy call_str_int (by rfl) (G.free "str" (by decide +kernel)) rfl (pa_cons (pe_glob (v := .int 999999) (by rfl) hm ⟨tm, rfl⟩) pa_nil)) pa_nil))))
      (pw_or1 (pt_not (pt_val (pe_callB (allK K) (by rfl) (G.free "all" (by decide +kernel)) rfl (pa_cons (pe_lcW (own := [("sign", 1)]) sc_number_in.nd (blkOk_by (N := n_number_in) (sc := defScope s_number_in) (by decide +kernel)) (pi_str (pv 0))
        (fun s' H' C cl fp => pg_name (i := 1) sc_number_in.nd rfl (.inl rfl)) (fun s' H' C cl fp => pts_nil) (fun s' H' C cl fp => pe_cmpR op_in_sign (pv 1) (pe_glob (v := .str "0123456789") (by rfl) hd ⟨td, rfl⟩) (by rfl))) pa_nil))))))) pss_never pss_nil)
    (pss_one (ps_ret (pe_ifExp (pt_cmpR op_eq (pe_callTy call_str_int (by rfl) (G.free "str" (by decide +kernel)) rfl (pa_cons (pe_callTy call_int_str (by rfl) (G.free "int" (by decide +kernel)) rfl (pa_cons (pv 0) pa_nil)) pa_nil)) (pv 0) (nomark _))
      (pe_callTy call_int_str (by rfl) (G.free "int" (by decide +kernel)) rfl (pa_cons (pv 0) pa_nil)) pe_non))), ?_⟩
  have hl := num_len hn
  have hl1 : 1 ≤ (TL.numL n).length := by
    rcases Nat.eq_zero_or_pos (TL.numL n).length with z | z
    · exact absurd (List.eq_nil_of_length_eq_zero z) (TL.numL_ne n)
    · exact z
  have hi : PySem.intText? (S (TL.numL n)) = some (n : Int) := by
    rw [← SX.num_S]
    exact TL.int_num (by omega)
  have e9 : Str.ofString (toString (999999 : Int)) = S (TL.numL 999999) := SX.num_S 999999
  refine ⟨.str (S (TL.numL n)), rfl, .str (S (TL.numL n)), (TL.numL n).length, rfl, ⟨by rw [SX.S_len, sizeLine_eq]; omega, by rw [SX.S_len]⟩, 1, _, rfl, rfl, true, congrArg V.bl (decide_eq_true (by omega)), iteT ⟨999999, rfl, by decide, _, 6, rfl, ⟨?_, ?_⟩, _, _, rfl, rfl, true, ?_, iteF ?_⟩⟩
  · rw [e9, SX.S_len, num6, sizeLine_eq]
    omega
  · rw [e9, SX.S_len, num6]
  · exact congrArg V.bl (decide_eq_true (by omega))
  refine ⟨.str (S (TL.numL n)), rfl, S (TL.numL n), rfl, ?_⟩
  refine lc_go (T := T) (M := []) it_str (fun _ => true) (fun _ y _ => y = .bl true) (fun _ _ => True) ?_ (fun b m => by cases m) (fun q H' hq g => trivial) (fun i y q H' H'' _ _ e => e) (fun i x H' Kc Kn hi g it kc _ => ?_) fun q ys H1 hq g1 hl1 pr => ?_
  · show (S (TL.numL n)).cps.size < sizeLine
    rw [sizeLine_eq]
    have : (S (TL.numL n)).cps.size = (TL.numL n).length := by simp [S]
    omega
  · obtain ⟨c, hc, rfl⟩ := it
    have hc : c ∈ TL.numL n := by
      have e1 : (S (TL.numL n)).cps[i]? = (TL.numL n)[i]? := by simp [S]
      rw [e1] at hc
      exact List.mem_of_getElem? hc
    refine ⟨rfl, lc_yes ⟨_, rfl, c, _, rfl, rfl, kc _ _ rfl Go.refl ?_ fun _ _ _ => trivial⟩⟩
    rw [digits_has (num_digit hc)]
  obtain ⟨e, et⟩ := all_true pr
  refine ⟨q, _, rfl, .of (by rw [← e]; exact hl1), true, by rw [et], iteF ?_⟩
  refine ⟨.str (S (TL.numL n)), rfl, S (TL.numL n), n, rfl, hi, by rw [SX.S_len]; omega, n, rfl, log_small hn, .str (S (TL.numL n)), rfl, rfl, true, ?_, iteT ⟨.str (S (TL.numL n)), rfl, S (TL.numL n), n, rfl, hi, by rw [SX.S_len]; omega, qq _ g1⟩⟩
  have e3 : Str.ofString (toString ((n : Nat) : Int)) = S (TL.numL n) := SX.num_S n
  rw [e3, decide_eq_true rfl]
def spVerIn (T : Tbl) (K : PySem.W.Frag) : Sp := fun vs H Q _ => ∃ n : Nat, vs = [.str (S (dotL n))] ∧ n < MX ∧ ∀ v H', Go T [] H H' → IsV (SqT K H') v n → Q v H'
theorem ok_version_in (G : Glo K mg) (D : Top K mg "version_in" s_version_in) (D1 : DefF P w K mg base 1 "number_in" ["word"] (spNum T)) : DefF P w K mg base 2 "version_in" ["word"] (spVerIn T K) := by
  refine def_of D sc_version_in bd_version_in (fun vs H Q E ⟨_, e, _⟩ => by rw [e]; rfl) ?_
  rintro f cdv A outer s H vs Q E hr ⟨n, rfl, hn, qq⟩
  refine ⟨_, pss_cons (ps_set (i := 1) sc_version_in.nd rfl (.inl rfl) (pe_callTy (tupK K) (by rfl) (G.free "tuple" (by decide +kernel)) rfl (pa_cons (pe_lcW (own := [("part", 2)]) sc_version_in.nd (blkOk_by (N := n_version_in) (sc := defScope s_version_in) (by decide +kernel)) (pi_list (pe_split (pv 0) pe_str))
        (fun s' H' C cl fp => pg_name (i := 2) sc_version_in.nd rfl (.inl rfl)) (fun s' H' C cl fp => pts_nil) (fun s' H' C cl fp => pe_D D1 hr (by rfl) (pa_cons (pv 2) pa_nil))) pa_nil)))
    (pss_one (ps_ret (pe_ifExp (PW.pt (pw_and (pt_cmpR op_eq (pe_callB (lenK K) (by rfl) (G.free "len" (by decide +kernel)) rfl (pa_cons (pv 1) pa_nil)) pe_int (nomark _)) (pw_and1 (pt_cmpR (ninQ K) pe_non (pv 1) (by rfl))))) (pv 1) pe_non))), ?_⟩
  have hdl := dot_len hn
  have e46 : Str.ofString "." = S [46] := S_str "."
  refine ⟨.str (S (dotL n)), rfl, ⟨_, rfl⟩, S (dotL n), _, rfl, rfl, by decide, by rw [SX.S_len, sizeLine_eq]; omega, fun a ha => ⟨a, rfl, ⟨_, .of upd_same⟩, ?_⟩⟩
  rw [e46, dot_split]
  have g0 : Go T [] H (upd H a (.lst ((((vN n).map TL.numL).map S).map V.str))) := Go.new ha
  refine lc_go (T := T) (M := []) (it_lst (xs := (((vN n).map TL.numL).map S).map V.str)) (fun _ => true) (fun i y _ => ∃ m, (vN n)[i]? = some m ∧ y = .int ((m : Nat) : Int)) (fun _ _ => True) (show 3 < sizeLine by decide) (fun b m => by cases m)
    (fun q H' hq g => .of (g.lst upd_same (by simp only [List.mem_singleton]; rintro rfl; rw [upd_same] at hq; cases hq))) (fun i y q H' H'' _ _ e => e) (fun i x H' Kc Kn hi g it kc _ => ?_) fun q ys H1 hq g1 hl1 pr => ?_
  · rw [List.map_map, List.map_map, List.getElem?_map] at it
    cases hm : (vN n)[i]? with
    | none => rw [hm] at it; cases it
    | some m =>
      rw [hm] at it
      obtain rfl : V.str (S (TL.numL m)) = x := Option.some.inj it
      exact ⟨rfl, lc_yes ⟨_, rfl, m, rfl, vN_lt hn m (List.mem_of_getElem? hm), fun H4 g4 => kc _ _ rfl g4 ⟨m, hm, rfl⟩ fun _ _ _ => trivial⟩⟩
  · rw [keep_all] at pr
    have e := map_of (l := vN n) pr
    have e : ys = (vI n).map V.int := e
    subst e
    refine ⟨q, _, rfl, .inl ⟨.of hl1, fun b hb => ?_⟩⟩
    have g2 := (g0.trans g1).trans (Go.new (T := T) (M := []) (o := .tup ((vI n).map V.int)) hb)
    refine ⟨.ref b, rfl, .ref b, 3, rfl, .inr ⟨_, .of upd_same, rfl⟩, rfl, true, rfl, iteT ⟨.ref b, rfl, b, _, rfl, .inr (.of upd_same), rfl, rfl, true, rfl, iteT ⟨.ref b, rfl, qq _ _ g2 ⟨b, rfl, .of upd_same, hn⟩⟩⟩⟩
end
end K3

/-! (x,) * 0, (x,) * 1, (x,) * 2 -/
namespace K3
open PySem PySem.Spec PyProof.Rows L2
theorem tmul1 (l : Addr) (z : Value) (n : Nat) (dd : Option Addr) (sl : Array (Option Value)) (u : Tok) : Meets (Builtin.«tuple.__mul__» ⟨[.ref l, .int 1 u], []⟩) (fun _ R s => s.heap.get? l = some { cls := .type "tuple", dict := dd, data := .seq #[z] n, slots := sl } ∧ R (.ok (.ret (Value.ref l))) s) :=
  .of_wp fun prog w A R s h => by
    obtain ⟨hp, gg, dr, tk, os⟩ := s
    obtain ⟨hl, h⟩ := h
    have f1 := AutoSeq1.idx_int
    have hT : Shared.TypeIs ⟨hp, gg, dr, tk, os⟩ (.ref l) "tuple" := ⟨_, hl, rfl⟩
    wp_walk using AutoSeq1.wpAny_loadPart' hl, wpAny_typeOf hT
    exact ⟨_, rfl, h⟩
theorem tmul0 (l : Addr) (z : Value) (n : Nat) (dd : Option Addr) (sl : Array (Option Value)) (u : Tok) : Meets (Builtin.«tuple.__mul__» ⟨[.ref l, .int 0 u], []⟩) (fun _ R s => s.heap.get? l = some { cls := .type "tuple", dict := dd, data := .seq #[z] n, slots := sl } ∧
    R (.ok (.ret (Value.ref s.heap.objs.size))) { s with heap := s.heap.push { cls := Value.type "tuple", data := Data.seq #[] }, toks := s.toks }) :=
  .of_wp fun prog w A R s h => by
    obtain ⟨hp, gg, dr, tk, os⟩ := s
    obtain ⟨hl, h⟩ := h
    have f1 := AutoSeq1.idx_int
    wp_walk using AutoSeq1.wpAny_loadPart' hl
    exact ⟨_, rfl, h⟩
def rRep3 : R2 := fun x y H Q => ∃ (l : Addr) (v : V) (k : Nat), x = .ref l ∧ y = .int ((k : Nat) : Int) ∧ H l = some (.tup [v]) ∧ k ≤ 2 ∧ ∀ p H', (∀ T, Go T [] H H') → H' p = some (.tup (List.replicate k v)) → Q (.ref p) H'
theorem op_rep3 {X : Cx} : OpR X (binaryOp .Mult) rRep3 := by
  intro pins s σ H x y v u Q I rx ry h
  obtain ⟨l, z, k, rfl, rfl, hT, hk, q⟩ := h
  match k, hk with
  | 2, _ => exact op_repT pins s σ H _ _ v u Q I rx ry ⟨l, 2, [z], rfl, rfl, .of hT, by simp, by omega, by omega, by simp, fun p hp => q p _ (fun _ => Go.new hp) upd_same⟩
  | 1, _ =>
    cases rx
    obtain ⟨t, rfl⟩ := ry
    obtain ⟨its, r, ⟨⟨cls, dd, data, sl⟩, ho, hc, n, hd⟩, hs⟩ := I.tuple (.of hT)
    simp only at hc hd
    subst hc hd
    cases r with
    | cons r1 rr =>
      cases rr
      refine wpAny_binaryOp_repeat_ref (T := "tuple") (U := "int") (by decide) ⟨_, ho, rfl⟩ (fun s' => typeIs_int s' 1 t) noFill_tuple_mul F.fills_int_mul F.slot_int_rmul repeat_tuple F.slot_int_index.lookup
        (call_meets F.slot_int_rmul (typeIs_int s 1 t) F.entry_int_rmul (F.args_int_rmul_2 _ _) (int_rmul_tuple 1 t l _ n dd sl)
          ⟨ho, rfl, ⟨_, ho, rfl⟩, call_meets F.slot_tuple_mul ⟨_, ho, rfl⟩ F.entry_tuple_mul (F.args_tuple_mul_2 _ _) (tmul1 l _ n dd sl t) ⟨ho, ?_⟩⟩)
      exact ⟨.ref l, H, I, rfl, q l H (fun _ => Go.refl) hT⟩
  | 0, _ =>
    cases rx
    obtain ⟨t, rfl⟩ := ry
    obtain ⟨its, r, ⟨⟨cls, dd, data, sl⟩, ho, hc, n, hd⟩, hs⟩ := I.tuple (.of hT)
    simp only at hc hd
    subst hc hd
    cases r with
    | cons r1 rr =>
      cases rr
      refine wpAny_binaryOp_repeat_ref (T := "tuple") (U := "int") (by decide) ⟨_, ho, rfl⟩ (fun s' => typeIs_int s' 0 t) noFill_tuple_mul F.fills_int_mul F.slot_int_rmul repeat_tuple F.slot_int_index.lookup
        (call_meets F.slot_int_rmul (typeIs_int s 0 t) F.entry_int_rmul (F.args_int_rmul_2 _ _) (int_rmul_tuple 0 t l _ n dd sl)
          ⟨ho, rfl, ⟨_, ho, rfl⟩, call_meets F.slot_tuple_mul ⟨_, ho, rfl⟩ F.entry_tuple_mul (F.args_tuple_mul_2 _ _) (tmul0 l _ n dd sl t) ⟨ho, ?_⟩⟩)
      have nH : H s.heap.objs.size = none := I.hok.fresh (Nat.le_refl _)
      refine ⟨.ref s.heap.objs.size, _, I.laid (t' := s.toks) (o := .tup []) (fun b ob q => Heap.get?_push_of_some _ q) (Nat.le_refl _) ?_, rfl, q _ _ (fun _ => Go.new nH) upd_same⟩
      exact ⟨Nat.zero_le _, [], .nil, IsTup.new _ _⟩
end K3

namespace K3
open PySem PySem.Spec PyProof.Rows L2
open SX (S)
theorem nxt_at {n j : Nat} (hn : n < MX) (hj : j < 3) (hb : (vI n).getD j 0 < 999999) (c : ∀ i, j < i → i < 3 → (vI n).getD i 0 = 999999) : nxt n = some (n + 1) ∧ raisedL j n = vI (n + 1) := by
  have key : n + 1 < MX → nxt n = some (n + 1) := fun h => by
    unfold nxt
    rw [if_pos h]
  unfold MX at hn key
  have h3 : j = 2 ∨ j = 1 ∨ j = 0 := by omega
  rcases h3 with rfl | rfl | rfl
  · have hb : VC n < 999999 := hb
    simp only [VC] at hb
    refine ⟨key (by omega), ?_⟩
    show [VA n, VB n, VC n + 1] = [VA (n + 1), VB (n + 1), VC (n + 1)]
    simp only [VA, VB, VC, List.cons.injEq, and_true]
    omega
  · have hb : VB n < 999999 := hb
    have c2 : VC n = 999999 := c 2 (by omega) (by omega)
    simp only [VB, VC] at hb c2
    refine ⟨key (by omega), ?_⟩
    show [VA n, VB n + 1, 0] = [VA (n + 1), VB (n + 1), VC (n + 1)]
    simp only [VA, VB, VC, List.cons.injEq, and_true]
    omega
  · have hb : VA n < 999999 := hb
    have c1 : VB n = 999999 := c 1 (by omega) (by omega)
    have c2 : VC n = 999999 := c 2 (by omega) (by omega)
    simp only [VA, VB, VC] at hb c1 c2
    refine ⟨key (by omega), ?_⟩
    show [VA n + 1, 0, 0] = [VA (n + 1), VB (n + 1), VC (n + 1)]
    simp only [VA, VB, VC, List.cons.injEq, and_true]
    omega
theorem nxt_no {n : Nat} (hn : n < MX) (c : ∀ i, i < 3 → (vI n).getD i 0 = 999999) : nxt n = none := by
  unfold MX at hn
  have c0 : VA n = 999999 := c 0 (by omega)
  have c1 : VB n = 999999 := c 1 (by omega)
  have c2 : VC n = 999999 := c 2 (by omega)
  simp only [VA, VB, VC] at c0 c1 c2
  unfold nxt MX
  rw [if_neg (by omega)]
theorem vI_le {n j : Nat} (hn : n < MX) (hj : j < 3) : (vI n).getD j 0 ≤ 999999 := by
  unfold MX at hn
  match j, hj with
  | 2, _ => show VC n ≤ _; simp only [VC]; omega
  | 1, _ => show VB n ≤ _; simp only [VB]; omega
  | 0, _ => show VA n ≤ _; simp only [VA]; omega
theorem vI_at {n j : Nat} (hj : j < 3) : atI ((vI n).map V.int) ((j : Nat) : Int) = some (.int ((vI n).getD j 0)) := by
  match j, hj with
  | 0, _ => rfl
  | 1, _ => rfl
  | 2, _ => rfl
theorem three {i : Nat} {x : V} (hi : i < 3) (it : ([V.int 2, V.int 1, V.int 0] : List V)[i]? = some x) : x = .int (((2 - i : Nat) : Nat) : Int) := by
  match i, hi, it with
  | 0, _, it => exact (Option.some.inj it).symm
  | 1, _, it => exact (Option.some.inj it).symm
  | 2, _, it => exact (Option.some.inj it).symm
theorem catA_goH {T : Tbl} {K : PySem.W.Frag} {H : Hp} {a b : Addr} {xs ys : List V} {Q : VK} (ha : H a = some (.tup xs)) (hb : H b = some (.tup ys)) (hz : xs.length + ys.length ≤ sizeLine) (h : ∀ p H1, Go T [] H H1 → H1 p = some (.tup (xs ++ ys)) → Q (.ref p) H1) : rCatA K (.ref a) (.ref b) H Q := by
  refine ⟨a, b, xs, ys, rfl, rfl, .of ha, .of hb, hz, fun e => ?_, fun _ e => ?_, fun _ _ p hp => h p _ (Go.new hp) upd_same⟩
  · subst e
    exact h b H Go.refl hb
  · subst e
    exact h a H Go.refl (by rw [List.append_nil]; exact ha)
section
variable {P : Program} {w : World} {K : PySem.W.Frag} {mg : Str → Option Value} {base : Heap} {T : Tbl}
def spBehind (T : Tbl) (K : PySem.W.Frag) : Sp := fun vs H Q _ => ∃ v n, vs = [v] ∧ IsV (SqT K H) v n ∧ ∀ v H', Go T [] H H' → IsE (Th H') v (nxt n) → Q v H'
theorem ok_l_behind_version (G : Glo K mg) (D : Top K mg "_law_behind_version" s_l_behind_version) : DefF P w K mg base 1 "_law_behind_version" ["_law_version_here"] (spBehind T K) := by
  refine def_of D sc_l_behind_version bd_l_behind_version (fun vs H Q E ⟨_, _, e, _⟩ => by rw [e]; rfl) ?_
  rintro f cdv A outer s H vs Q E hr ⟨v, n, rfl, ⟨p, rfl, hp, hn⟩, qq⟩
  refine ⟨_, pss_cons (ps_forW PassesOwn.never (pi_tup (pe_tup (pa_cons pe_int (pa_cons pe_int (pa_cons pe_int pa_nil))))) (pg_name (i := 1) sc_l_behind_version.nd rfl (.inl rfl))
      (pss_one (ps_if (pt_cmpR op_lt (peIx (ixT K) (pv 0) (pv 1)) pe_int (nomark _))
        (pss_one (ps_ret (pe_op (catA K) (pe_op (catA K) (pe_slice (slT K) (pv 0) po_none (po_some (pv 1))) (pe_tup (pa_cons (pe_op op_add (peIx (ixT K) (pv 0) (pv 1)) pe_int) pa_nil))) (pe_op op_rep3 (pe_tup (pa_cons pe_int pa_nil)) (pe_op op_sub pe_int (pv 1)))))) pss_nil)))
    (pss_one (ps_ret pe_non)), ?_⟩
  refine ⟨by show 3 ≤ sizeLine; decide, fun a ha => ⟨a, rfl, ⟨_, .of upd_same⟩, ?_⟩⟩
  have g0 : Go T [] H (upd H a (.tup [.int 2, .int 1, .int 0])) := Go.new ha
  refine for_go (T := T) (it_tup (xs := [.int 2, .int 1, .int 0])) (fun i σ H' => Go T [] (upd H a (.tup [.int 2, .int 1, .int 0])) H' ∧ (∃ y, σ = [some (.ref p), y]) ∧ ∀ j, 3 - i ≤ j → j < 3 → (vI n).getD j 0 = 999999)
    ⟨Go.refl, ⟨_, rfl⟩, fun j h1 h2 => by omega⟩ (fun i σ H' _ h => h.1.sqt (.of upd_same)) ?_ ?_
  · rintro i x σ H1 H2 hi ⟨g, ⟨y, rfl⟩, cc⟩ g2 it
    have gg := (g0.trans g).trans g2
    have hp2 := gg.sqt hp
    have hi3 : i < 3 := hi
    obtain rfl := three hi3 it
    have hj : 2 - i < 3 := by omega
    generalize hjj : 2 - i = j at hj it
    have hz := vI_at (n := n) hj
    refine ⟨.ref p, rfl, .int j, rfl, p, _, _, _, rfl, rfl, hp2, hz, _, _, rfl, rfl, _, rfl, ?_⟩
    by_cases hb : (vI n).getD j 0 < 999999
    · rw [decide_eq_true hb]
      obtain ⟨e1, e2⟩ := nxt_at hn hj hb fun k h1 h2 => cc k (by omega) h2
      refine iteT ⟨.ref p, rfl, .int j, rfl, j, rfl, p, _, rfl, hp2, fun hw => ?_, fun _ b hb => ?_⟩
      · exfalso
        obtain ⟨_, h2⟩ := hw
        have h3 : j = 2 ∨ j = 1 ∨ j = 0 := by omega
        rcases h3 with rfl | rfl | rfl
        · exact absurd h2 (show ¬ (2 : Nat) = 3 by decide)
        · exact absurd h2 (show ¬ (1 : Nat) = 3 by decide)
        · exact absurd h2 (show ¬ (0 : Nat) = 3 by decide)
      · have g3 := Go.new (T := T) (M := []) (o := .tup (cutV ((vI n).map V.int) none (some (j : Int)))) hb
        refine ⟨.ref p, rfl, .int j, rfl, p, _, _, _, rfl, rfl, g3.sqt hp2, hz, _, _, rfl, rfl, by show 1 ≤ sizeLine; decide, fun c hc => ?_⟩
        have g4 := Go.new (T := T) (M := []) (o := .tup [V.int ((vI n).getD j 0 + 1)]) hc
        have hcl : (cutV ((vI n).map V.int) none (some (j : Int))).length ≤ 3 := cutV_length _ _ _
        refine catA_goH (T := T) (g4.tup _ _ upd_same) upd_same (by rw [sizeLine_eq]; simp only [List.length_singleton]; omega) fun d H5 g5 hd => ?_
        refine ⟨by show 1 ≤ sizeLine; decide, fun e he => ?_⟩
        have g6 := Go.new (T := T) (M := []) (o := .tup [V.int 0]) he
        refine ⟨.int j, rfl, 2, (j : Int), rfl, rfl, e, .int 0, 2 - j, rfl, by show V.int (2 - (j : Int)) = V.int (((2 - j : Nat) : Nat) : Int); congr 1; omega, upd_same, by omega, fun t H7 g7 ht => ?_⟩
        refine catA_goH (T := T) ((g7 T).tup _ _ (g6.tup _ _ hd)) ht (by rw [sizeLine_eq, List.length_append, List.length_singleton, List.length_replicate]; omega) fun u H8 g8 hu => ?_
        have gall := ((((gg.trans g3).trans g4).trans g5).trans g6).trans ((g7 T).trans g8)
        refine qq _ _ gall ?_
        rw [e1]
        refine ⟨u, rfl, ?_, ?_⟩
        · show H8 u = _
          rw [hu, ← e2]
          have h3 : j = 2 ∨ j = 1 ∨ j = 0 := by omega
          rcases h3 with rfl | rfl | rfl
          · rfl
          · rfl
          · rfl
        · unfold nxt at e1
          split at e1
          · assumption
          · cases e1
    · rw [decide_eq_false hb]
      refine iteF ⟨g.trans g2, ⟨_, rfl⟩, fun k h1 h2 => ?_⟩
      rcases Nat.lt_or_ge k (3 - i) with z | z
      · have ek : k = j := by omega
        subst ek
        have := vI_le hn hj
        omega
      · exact cc k z h2
  · rintro σ H1 ⟨g, ⟨y, rfl⟩, cc⟩
    refine qq _ _ (g0.trans g) ?_
    rw [nxt_no hn fun i hi => cc i (by show 3 - 3 ≤ i; omega) hi]
    rfl
end
end K3

namespace K3
open PySem PySem.Spec PyProof.Rows L2
open SX (S)
theorem segT_eq (l : Nat) (e : Option Nat) : segT (l, e) = if e = nxt l then dotL l else match e with
    | none => cs "from " ++ dotL l
    | some h => if l = 0 then cs "below " ++ dotL h else cs "from " ++ dotL l ++ cs " and below " ++ dotL h := by
  have e1 : cs "from " = cs "from" ++ [32] := by decide
  have e2 : cs "below " = cs "below" ++ [32] := by decide
  have e3 : cs " and below " = [32] ++ cs "and" ++ [32] ++ cs "below" ++ [32] := by decide
  unfold segT
  rw [segW_eq, e1, e2, e3]
  split
  · rfl
  · cases e with
    | none =>
      show cs "from" ++ ([32] ++ dotL l) = _
      simp only [List.append_assoc]
    | some h =>
      simp only
      split
      · show cs "below" ++ ([32] ++ dotL h) = _
        simp only [List.append_assoc]
      · show cs "from" ++ ([32] ++ (dotL l ++ ([32] ++ (cs "and" ++ ([32] ++ (cs "below" ++ ([32] ++ dotL h))))))) = _
        simp only [List.append_assoc]
theorem strcat (s : String) (a : List Nat) : Str.ofString s ++ S a = S (cs s ++ a) := by rw [S_str, SX.S_cat]
theorem catstr (s : String) (a : List Nat) : S a ++ Str.ofString s = S (a ++ cs s) := by rw [S_str, SX.S_cat]
theorem ofs_len (s : String) : (Str.ofString s).length = (cs s).length := by rw [S_str, SX.S_len]
section
variable {P : Program} {w : World} {K : PySem.W.Frag} {mg : Str → Option Value} {base : Heap} {T : Tbl}
def spSegShow (T : Tbl) (K : PySem.W.Frag) : Sp := fun vs H Q _ => ∃ u v n o, vs = [u, v] ∧ IsV (SqT K H) u n ∧ IsE (SqT K H) v o ∧ ∀ H', Go T [] H H' → Q (.str (S (segT (n, o)))) H'
theorem ok_show_stretch (G : Glo K mg) (D : Top K mg "show_stretch" s_show_stretch) (D1 : DefF P w K mg base 2 "after" ["version"] (spAfter T K)) (D2 : DefF P w K mg base 1 "show_version" ["version"] (spShow T K)) : DefF P w K mg base 3 "show_stretch" ["low", "high"] (spSegShow T K) := by
  refine def_of D sc_show_stretch bd_show_stretch (fun vs H Q E ⟨_, _, _, _, e, _⟩ => by rw [e]; rfl) ?_
  rintro f cdv A outer s H vs Q E hr ⟨u, v, n, o, rfl, hu, hv, qq⟩
  obtain ⟨al, hml, hal⟩ := G.least
  have hn : n < MX := by
    obtain ⟨_, _, _, h⟩ := hu
    exact h
  refine ⟨_, pss_cons (ps_if (pt_cmpR (eqD K hr.units) (pv 1) (pe_D D1 hr (by rfl) (pa_cons (pv 0) pa_nil)) (nomark _)) (pss_one (ps_ret (pe_D D2 (hr.mono (by decide)) (by rfl) (pa_cons (pv 0) pa_nil)))) pss_nil)
    (pss_cons (ps_if (pt_cmp (pc_isN (pv 1))) (pss_one (ps_ret (pe_op op_add_str pe_str (pe_D D2 (hr.mono (by decide)) (by rfl) (pa_cons (pv 0) pa_nil))))) pss_nil)
    (pss_cons (ps_if (pt_cmpR (eqD K hr.units) (pv 0) (pe_glob (v := .ref al) (by rfl) hml rfl) (nomark _)) (pss_one (ps_ret (pe_op op_add_str pe_str (pe_D D2 (hr.mono (by decide)) (by rfl) (pa_cons (pv 1) pa_nil))))) pss_nil)
    (pss_one (ps_ret (pe_op op_add_str (pe_op op_add_str (pe_op op_add_str pe_str (pe_D D2 (hr.mono (by decide)) (by rfl) (pa_cons (pv 0) pa_nil))) pe_str) (pe_D D2 (hr.mono (by decide)) (by rfl) (pa_cons (pv 1) pa_nil))))))), ?_⟩
  have dl := dot_len hn
  rw [segT_eq] at qq
  refine ⟨v, rfl, u, rfl, u, n, rfl, hu, fun x H1 g1 hx => ⟨endD o, endD (nxt n), (hv.go g1).dp, hx.dp, shaped_end _, shaped_end _, _, rfl, ?_⟩⟩
  rw [endD_eqv]
  by_cases he : o = nxt n
  · rw [if_pos he] at qq
    rw [decide_eq_true he]
    exact iteT ⟨u, rfl, u, n, rfl, hu.go g1, fun H2 g2 => qq H2 (g1.trans g2)⟩
  · rw [if_neg he] at qq
    rw [decide_eq_false he]
    refine iteF ⟨v, rfl, _, rfl, ?_⟩
    cases o with
    | none =>
      cases (show v = .non from hv)
      refine iteT ⟨u, rfl, u, n, rfl, hu.go g1, fun H2 g2 => ⟨_, _, rfl, rfl, ?_, ?_⟩⟩
      · rw [ofs_len, SX.S_len, sizeLine_eq]
        have : (cs "from ").length = 5 := by decide
        omega
      · rw [strcat]
        exact qq H2 (g1.trans g2)
    | some h =>
      have hv' := hv
      obtain ⟨pv1, rfl, tv, hh⟩ := hv'
      have dh := dot_len hh
      have qq : ∀ H', Go T [] H H' → Q (.str (S (if n = 0 then cs "below " ++ dotL h else cs "from " ++ dotL n ++ cs " and below " ++ dotL h))) H' := qq
      refine iteF ⟨u, rfl, verD n, verD 0, (hu.go g1).dp, (isV0 (hal H1)).dp, shaped_ver _, shaped_ver _, _, rfl, ?_⟩
      rw [verD_eqv]
      by_cases h0 : n = 0
      · rw [if_pos h0] at qq
        rw [decide_eq_true h0]
        refine iteT ⟨_, rfl, _, h, rfl, hv.go g1, fun H2 g2 => ⟨_, _, rfl, rfl, ?_, ?_⟩⟩
        · rw [ofs_len, SX.S_len, sizeLine_eq]
          have : (cs "below ").length = 6 := by decide
          omega
        · rw [strcat]
          exact qq H2 (g1.trans g2)
      · rw [if_neg h0] at qq
        rw [decide_eq_false h0]
        have f5 : (cs "from ").length = 5 := by decide
        have f11 : (cs " and below ").length = 11 := by decide
        refine iteF ⟨u, rfl, u, n, rfl, hu.go g1, fun H2 g2 => ⟨_, _, rfl, rfl, ?_, _, _, rfl, rfl, ?_, _, rfl, _, h, rfl, (hv.go g1).go g2, fun H3 g3 => ⟨_, _, rfl, rfl, ?_, ?_⟩⟩⟩
        · rw [ofs_len, SX.S_len, sizeLine_eq]
          omega
        · rw [strcat, ofs_len, SX.S_len, List.length_append, sizeLine_eq]
          omega
        · rw [strcat, catstr, SX.S_len, SX.S_len, List.length_append, List.length_append, sizeLine_eq]
          omega
        · rw [strcat, catstr, SX.S_cat]
          exact qq H3 ((g1.trans g2).trans g3)
theorem IsS.sm {Tp : TP} {x : V} {s : Sg} (h : IsS Tp x s) : s.1 < MX ∧ ∀ h, s.2 = some h → h < MX := by
  obtain ⟨p, a, b, rfl, t, ⟨_, _, _, h1⟩, h2⟩ := h
  refine ⟨h1, fun z e => ?_⟩
  rw [e] at h2
  obtain ⟨_, _, _, h3⟩ := h2
  exact h3
theorem AllS.small {Tp : TP} : ∀ {vs : List V} {R : Rg}, AllS Tp vs R → Small R
  | _, _, .nil => fun s h => by cases h
  | _, _, .cons a r => fun s h => by
    rcases List.mem_cons.mp h with rfl | h
    · exact a.sm
    · exact AllS.small r s h
/-- the texts that are joined are not too long -/
theorem texts_fit {R : Rg} (h : Small R) (hl : R.length ≤ 1000) : (((R.map segT).map S).map (·.length)).sum + ((R.map segT).map S).length * (Str.ofString " or ").length ≤ 16777216 := by
  have e4 : (Str.ofString " or ").length = 4 := by rw [ofs_len]; decide
  rw [e4, SX.lens]
  have h1 := sum_le (l := (R.map segT).map (·.length)) (b := 1000) fun x hx => by
    obtain ⟨p, hp, rfl⟩ := List.mem_map.mp hx
    obtain ⟨s, hs, rfl⟩ := List.mem_map.mp hp
    exact segT_len (h s hs).1 (h s hs).2
  simp only [List.length_map] at h1 ⊢
  omega
theorem rng_join {R : Rg} (h0 : R ≠ [(0, none)]) (h1 : R ≠ []) : Txt.join (Str.ofString " or ") ((R.map segT).map S) = S (rngT R) := by
  rw [S_str, SX.join_S, or_join R h1]
  unfold rngT rngW
  rw [if_neg h0, if_neg h1]
def spRngShow (T : Tbl) (K : PySem.W.Frag) : Sp := fun vs H Q _ => ∃ v R, vs = [v] ∧ IsR (SqT K H) v R ∧ R.length ≤ 1000 ∧ ∀ H', Go T [] H H' → Q (.str (S (rngT R))) H'
theorem ok_show_range (D : Top K mg "show_range" s_show_range) (D1 : DefF P w K mg base 1 "all_of" [] (spAll T K)) (D2 : DefF P w K mg base 3 "show_stretch" ["low", "high"] (spSegShow T K)) : DefF P w K mg base 4 "show_range" ["one"] (spRngShow T K) := by
  refine def_of D sc_show_range bd_show_range (fun vs H Q E ⟨_, _, e, _⟩ => by rw [e]; rfl) ?_
  rintro f cdv A outer s H vs Q E hr ⟨v, R, rfl, ⟨p, xs, rfl, hp, ax⟩, lR, qq⟩
  refine ⟨_, pss_cons (ps_if (pt_cmpR (eqD K hr.units) (pv 0) (pe_D0 D1 (hr.mono (by decide)) (by rfl)) (nomark _)) (pss_one (ps_ret pe_str)) pss_nil)
    (pss_one (ps_ret (pe_ifExp (pt_cmpR (neD K hr.units) (pv 0) (pe_tup pa_nil) (nomark _)) (pe_join pe_str (pe_lcW (own := [("low", 1), ("high", 2)]) sc_show_range.nd (blkOk_by (N := n_show_range) (sc := defScope s_show_range) (by decide +kernel)) (pi_tup (pv 0))
      (fun s' H' C cl fp => by exact pgT K 2 (pgs_cons (pg_name (i := 1) sc_show_range.nd rfl (.inl rfl)) (pgs_cons (pg_name (i := 2) sc_show_range.nd rfl (.inl rfl)) pgs_nil))) (fun s' H' C cl fp => pts_nil)
      (fun s' H' C cl fp => pe_D D2 hr (by rfl) (pa_cons (pv 1) (pa_cons (pv 2) pa_nil))))) pe_str))), ?_⟩
  have hlx := AllS.len ax
  have hv : IsR (SqT K H) (.ref p) R := ⟨p, xs, rfl, hp, ax⟩
  refine ⟨.ref p, rfl, rfl, fun x H1 g1 hx => ⟨rngD R, rngD [(0, none)], (hv.go g1).dp, hx.dp, shaped_rng _, shaped_rng _, _, rfl, ?_⟩⟩
  rw [rngD_eqv]
  by_cases h0 : R = [(0, none)]
  · rw [decide_eq_true h0]
    refine iteT ?_
    have e : rngT R = cs "all" := by unfold rngT rngW; rw [if_pos h0]; rfl
    have q1 := qq H1 g1
    rw [e, ← S_str] at q1
    exact q1
  · rw [decide_eq_false h0]
    refine iteF ⟨.ref p, rfl, by decide, fun a ha => ⟨rngD R, rngD [], ((hv.go g1).go (T := T) (M := []) (Go.new ha)).dp, .tup (.of upd_same) .nil, shaped_rng _, shaped_rng _, _, rfl, ?_⟩⟩
    have g2 := g1.trans (Go.new (T := T) (M := []) (o := .tup []) ha)
    rw [rngD_eqv]
    by_cases h1 : R = []
    · rw [decide_eq_true h1]
      refine iteF ?_
      have e : rngT R = cs "none" := by unfold rngT rngW; rw [if_neg h0, if_pos h1]; rfl
      have q1 := qq _ g2
      rw [e, ← S_str] at q1
      exact q1
    · rw [decide_eq_false h1]
      refine iteT ⟨⟨_, rfl⟩, .ref p, rfl, p, rfl, ⟨_, g2.sqt hp⟩, ?_⟩
      refine lc_go (T := T) (M := []) (it_tup (xs := xs)) (fun _ => true) (fun i y _ => ∃ s, R[i]? = some s ∧ y = .str (S (segT s))) (fun _ _ => True) (by rw [sizeLine_eq]; omega) (fun b m => by cases m) (fun q H' hq g => g.sqt (g2.sqt hp)) (fun i y q H' H'' _ _ e => e) (fun i x H' Kc Kn hi g it kc _ => ?_) fun q ys H3 hq g3 hl3 pr => ?_
      · obtain ⟨⟨b, e⟩, hs, pz, va, ve, rfl, tz, ia, ie⟩ := AllS.at ax it
        have gg := g2.trans g
        exact ⟨pz, _, rfl, gg.sqt tz, rfl, _, _, rfl, _, _, rfl, rfl, rfl, lc_yes ⟨va, rfl, ve, rfl, va, ve, b, e, rfl, ia.go gg, ie.go gg, fun H4 g4 => kc _ _ rfl g4 ⟨_, hs, rfl⟩ fun _ _ _ => trivial⟩⟩
      · rw [keep_all, hlx] at pr
        have e := map_of (l := R) pr
        refine ⟨_, q, (R.map segT).map S, rfl, rfl, .inl (.of (by rw [hl3, e, List.map_map, List.map_map]; rfl)), texts_fit (AllS.small ax) lR, ?_⟩
        rw [rng_join h0 h1]
        exact qq _ (g2.trans g3)
end
end K3

namespace K3
open PySem PySem.Spec PyProof.Rows L2
open SX (S)
theorem can_zero : ∀ {R : Rg} {b : Nat}, Can b R → (0, none) ∈ R → R = [(0, none)]
  | [], _, _, h => by cases h
  | (l, none) :: r, b, c, h => by
    obtain ⟨_, rfl⟩ := c
    rcases List.mem_cons.mp h with e | e
    · rw [← e]
    · cases e
  | (l, some k) :: r, b, c, h => by
    rcases List.mem_cons.mp h with e | e
    · cases e
    · exfalso
      have z : ∀ {R : Rg} {b : Nat}, Can b R → ∀ s ∈ R, b ≤ s.1 := by
        intro R
        induction R with
        | nil => intro b _ s hs; cases hs
        | cons x r ih =>
          obtain ⟨l, o⟩ := x
          intro b c s hs
          cases o with
          | none =>
            obtain ⟨c1, rfl⟩ := c
            rw [List.mem_singleton.mp hs]
            exact c1
          | some k =>
            obtain ⟨c1, c2, c3⟩ := c
            rcases List.mem_cons.mp hs with rfl | hs
            · exact c1
            · have := ih c3 s hs
              omega
      have := z c.2.2 _ e
      simp at this
def strsD (l : List Str) : PyData := .list (l.map .str)
theorem strOk_S {l : List Nat} (h : ∀ c ∈ l, c < 128) : PyData.strOk (S l) = true := by
  unfold PyData.strOk
  rw [← Array.all_toList]
  refine List.all_eq_true.mpr fun c hc => decide_eq_true ?_
  have := h c hc
  omega
theorem strs_can : ∀ l : List Str, (∀ x ∈ l, PyData.strOk x = true) → PyData.canLayAll0 (l.map PyData.str) = true
  | [], _ => rfl
  | x :: l, h => by
    have e : PyData.canLayAll0 ((x :: l).map PyData.str) = (PyData.strOk x && PyData.canLayAll0 (l.map PyData.str)) := rfl
    rw [e, strs_can l fun y hy => h y (List.mem_cons_of_mem _ hy), h x (by simp)]
    rfl
theorem strs_depth : ∀ l : List Str, PyData.depthAll (l.map PyData.str) = 0
  | [] => rfl
  | x :: l => by
    have e : PyData.depthAll ((x :: l).map PyData.str) = max (PyData.str x).depth (PyData.depthAll (l.map PyData.str)) := rfl
    rw [e, strs_depth l]
    rfl
theorem shaped_strs {l : List Str} (h : ∀ x ∈ l, PyData.strOk x = true) : SeqAt.shaped (strsD l) = true := shaped_of (strs_can l h) (by
  have e : (strsD l).depth = PyData.depthAll (l.map PyData.str) + 1 := rfl
  rw [e, strs_depth]
  decide)
theorem strs_nil (l : List Str) : PyData.eqv (strsD l) (strsD []) = decide (l = []) := by
  cases l with
  | nil => rfl
  | cons x l => rfl
theorem strs_dp {K : PySem.W.Frag} {H : Hp} : ∀ l : List Str, DpAll K H (l.map V.str) (l.map PyData.str)
  | [] => .nil
  | x :: l => .cons (.str x) (strs_dp l)
section
variable {P : Program} {w : World} {K : PySem.W.Frag} {mg : Str → Option Value} {base : Heap} {T : Tbl}
def spLShow (T : Tbl) (K : PySem.W.Frag) : Sp := fun vs H Q _ => ∃ v R, vs = [v] ∧ IsR (SqT K H) v R ∧ Can 0 R ∧ R.length ≤ 1000 ∧ ∀ H', Go T [] H H' → Q (.str (S (rngT R))) H'
theorem ok_l_show_range (D : Top K mg "_law_show_range" s_l_show_range) (D1 : DefF P w K mg base 1 "_law_behind_version" ["_law_version_here"] (spBehind T K)) (D2 : DefF P w K mg base 1 "_law_said" ["_law_version_here"] (spShow T K)) : DefF P w K mg base 2 "_law_show_range" ["_law_stretches"] (spLShow T K) := by
  refine def_of D sc_l_show_range bd_l_show_range (fun vs H Q E ⟨_, _, e, _⟩ => by rw [e]; rfl) ?_
  rintro f cdv A outer s H vs Q E hr ⟨v, R, rfl, ⟨p, xs, rfl, hp, ax⟩, cR, lR, qq⟩
  refine ⟨_, pss_cons (ps_if (pt_cmpR (eqD K hr.units) (pv 0) (pe_tup (pa_cons (pe_tup (pa_cons (pe_tup (pa_cons pe_int (pa_cons pe_int (pa_cons pe_int pa_nil)))) (pa_cons pe_non pa_nil))) pa_nil)) (nomark _)) (pss_one (ps_ret pe_str)) pss_nil)
    (pss_cons (ps_set (i := 1) sc_l_show_range.nd rfl (.inl rfl) (pe_lst pa_nil))
    (pss_cons (ps_forW PassesOwn.never (pi_tup (pv 0)) (pgT K 2 (pgs_cons (pg_name (i := 2) sc_l_show_range.nd rfl (.inl rfl)) (pgs_cons (pg_name (i := 3) sc_l_show_range.nd rfl (.inl rfl)) pgs_nil)))
      (pss_one (ps_if (pt_cmpR (eqD K hr.units) (pv 3) (pe_D D1 hr (by rfl) (pa_cons (pv 2) pa_nil)) (nomark _))
        (pss_one (ps_expr (pe_bm PySem.F.plainAttrs_list PySem.F.slot_list_append PySem.F.type_list_append mt_append (pv 1) (pa_cons (pe_D D2 hr (by rfl) (pa_cons (pv 2) pa_nil)) pa_nil))))
        (pss_one (ps_if (pt_cmpR (eqD K hr.units) (pv 2) (pe_tup (pa_cons pe_int (pa_cons pe_int (pa_cons pe_int pa_nil)))) (nomark _))
          (pss_one (ps_expr (pe_bm PySem.F.plainAttrs_list PySem.F.slot_list_append PySem.F.type_list_append mt_append (pv 1) (pa_cons (pe_op op_add_str pe_str (pe_D D2 hr (by rfl) (pa_cons (pv 3) pa_nil))) pa_nil))))
          (pss_one (ps_expr (pe_bm PySem.F.plainAttrs_list PySem.F.slot_list_append PySem.F.type_list_append mt_append (pv 1) (pa_cons (pe_op op_add_str (pe_op op_add_str pe_str (pe_D D2 hr (by rfl) (pa_cons (pv 2) pa_nil)))
            (pe_ifExp (pt_cmp (pc_notN (pv 3))) (pe_op op_add_str pe_str (pe_D D2 hr (by rfl) (pa_cons (pv 3) pa_nil))) pe_str)) pa_nil)))))))))
    (pss_one (ps_ret (pe_ifExp (pt_cmpR (neD K hr.units) (pv 1) (pe_lst pa_nil) (nomark _)) (pe_join pe_str (pv 1)) pe_str))))), ?_⟩
  have hlx := AllS.len ax
  have hv : IsR (SqT K H) (.ref p) R := ⟨p, xs, rfl, hp, ax⟩
  refine ⟨.ref p, rfl, by show 3 ≤ sizeLine; decide, fun a ha => ⟨by show 2 ≤ sizeLine; decide, fun b hb => ⟨by show 1 ≤ sizeLine; decide, fun c hc => ?_⟩⟩⟩
  have ga : Go T [] H (upd H a (.tup [.int 0, .int 0, .int 0])) := Go.new ha
  have gb : Go T [] (upd H a (.tup [.int 0, .int 0, .int 0])) (upd (upd H a (.tup [.int 0, .int 0, .int 0])) b (.tup [.ref a, .non])) := Go.new hb
  have gc : Go T [] (upd (upd H a (.tup [.int 0, .int 0, .int 0])) b (.tup [.ref a, .non])) (upd (upd (upd H a (.tup [.int 0, .int 0, .int 0])) b (.tup [.ref a, .non])) c (.tup [.ref b])) := Go.new hc
  have g1 := (ga.trans gb).trans gc
  have iv : IsR (SqT K (upd (upd (upd H a (.tup [.int 0, .int 0, .int 0])) b (.tup [.ref a, .non])) c (.tup [.ref b]))) (.ref c) [(0, none)] := ⟨c, _, rfl, .of upd_same, .cons ⟨b, _, _, rfl, gc.sqt (.of upd_same), isV0 (gc.sqt (gb.sqt (.of upd_same))), rfl⟩ .nil⟩
  refine ⟨rngD R, rngD [(0, none)], (hv.go g1).dp, iv.dp, shaped_rng _, shaped_rng _, _, rfl, ?_⟩
  rw [rngD_eqv]
  by_cases h0 : R = [(0, none)]
  · rw [decide_eq_true h0]
    refine iteT ?_
    have e : rngT R = cs "all" := by unfold rngT rngW; rw [if_pos h0]; rfl
    have q1 := qq _ g1
    rw [e, ← S_str] at q1
    exact q1
  rw [decide_eq_false h0]
  refine iteF ⟨by decide, fun q hq => ⟨.ref p, rfl, p, rfl, ⟨_, (g1.trans (Go.new (T := T) (M := []) hq)).sqt hp⟩, ?_⟩⟩
  have g2 := g1.trans (Go.new (T := T) (M := []) (o := .lst []) hq)
  have hqH : H q = none := g1.back q hq
  have f5 : (cs "from ").length = 5 := by decide
  have f6 : (cs "below ").length = 6 := by decide
  have f11 : (cs " and below ").length = 11 := by decide
  let Pv : Nat → L2.St → Hp → Prop := fun i σ H' => Go T [] H H' ∧ (∃ y z, σ = [some (.ref p), some (.ref q), y, z]) ∧ H' q = some (.lst ((((R.take i).map segT).map S).map V.str))
  refine for_go (T := T) (it_tup (xs := xs)) Pv ⟨g2, ⟨_, _, rfl⟩, upd_same⟩ (fun i σ H' _ h => h.1.sqt hp) ?_ ?_
  · rintro i x σ H1 H2 hi ⟨g3, ⟨y, z, rfl⟩, hl⟩ g4 it
    obtain ⟨⟨l, o⟩, hs, pz, va, ve, rfl, tz, ia, ie⟩ := AllS.at ax it
    have g34 := g3.trans g4
    have sm := AllS.small ax (l, o) (List.mem_of_getElem? hs)
    have dl : (dotL l).length ≤ 20 := dot_len sm.1
    have iv := ia.go g34
    have ive := ie.go g34
    have hl2 := g4.lst hl
    have et : (R.take (i + 1)).map segT = (R.take i).map segT ++ [segT (l, o)] := by rw [List.take_add_one, hs]; simp
    have len : ((((R.take i).map segT).map S).map V.str).length ≤ 1000 := by simp only [List.length_map, List.length_take]; omega
    have fin : ∀ H5, Go T [] H2 H5 → ∀ t : List Nat, t = segT (l, o) → rAppend (.ref q) [.str (S t)] H5 fun _ H6 => Pv (i + 1) [some (.ref p), some (.ref q), some va, some ve] H6 := fun H5 g5 t e => by
      have h5 := g5.lst hl2
      refine ⟨q, _, _, rfl, rfl, h5, by rw [sizeLine_eq]; omega, (g34.trans g5).mut hqH h5, ⟨_, _, rfl⟩, ?_⟩
      rw [upd_same, et, e]
      simp only [List.map_append, List.map_cons, List.map_nil]
    have eT := segT_eq l o
    refine ⟨pz, _, rfl, g34.sqt tz, rfl, _, _, rfl, _, _, rfl, rfl, ?_⟩
    refine ⟨ve, rfl, va, rfl, va, l, rfl, iv, fun x2 H3 g5 hx2 => ⟨endD o, endD (nxt l), (ive.go g5).dp, (hx2.imp fun _ _ => SqT.of).dp, shaped_end _, shaped_end _, _, rfl, ?_⟩⟩
    rw [endD_eqv]
    by_cases he : o = nxt l
    · rw [if_pos he] at eT
      rw [decide_eq_true he]
      exact iteT ⟨.ref q, rfl, tyL (g5.lst hl2), va, rfl, va, l, rfl, iv.go g5, fun H5 g6 => fin H5 (g5.trans g6) _ eT.symm⟩
    · rw [if_neg he] at eT
      rw [decide_eq_false he]
      refine iteF ⟨va, rfl, by show 3 ≤ sizeLine; decide, fun d hd => ?_⟩
      have gd := Go.new (T := T) (M := []) (o := .tup [.int 0, .int 0, .int 0]) hd
      have g5d := g5.trans gd
      refine ⟨verD l, verD 0, (iv.go g5d).dp, (isV0 (.of upd_same)).dp, shaped_ver _, shaped_ver _, _, rfl, ?_⟩
      rw [verD_eqv]
      by_cases hz : l = 0
      · rw [decide_eq_true hz]
        cases o with
        | none => exact absurd (can_zero cR (by rw [hz] at hs; exact List.mem_of_getElem? hs)) h0
        | some h =>
          have dh := dot_len (sm.2 h rfl)
          have eT : segT (l, some h) = if l = 0 then cs "below " ++ dotL h else cs "from " ++ dotL l ++ cs " and below " ++ dotL h := eT
          rw [if_pos hz] at eT
          refine iteT ⟨.ref q, rfl, tyL (g5d.lst hl2), _, rfl, ve, h, rfl, ive.go g5d, fun H5 g6 => ⟨_, _, rfl, rfl, ?_, ?_⟩⟩
          · rw [ofs_len, SX.S_len, sizeLine_eq]
            omega
          · rw [strcat]
            exact fin H5 (g5d.trans g6) _ eT.symm
      · rw [decide_eq_false hz]
        refine iteF ⟨.ref q, rfl, tyL (g5d.lst hl2), va, rfl, va, l, rfl, iv.go g5d, fun H5 g6 => ⟨_, _, rfl, rfl, ?_, ve, rfl, !decide (ve = .non), rfl, ?_⟩⟩
        · rw [ofs_len, SX.S_len, sizeLine_eq]
          omega
        · have g7 := g5d.trans g6
          rw [strcat]
          cases o with
          | none =>
            cases (show ve = .non from ie)
            refine iteF ⟨_, _, rfl, rfl, ?_, ?_⟩
            · rw [ofs_len, SX.S_len, List.length_append, sizeLine_eq]
              have : (cs "").length = 0 := by decide
              omega
            · rw [catstr]
              refine fin H5 g7 _ ?_
              have : cs "" = [] := by decide
              rw [this, List.append_nil]
              exact eT.symm
          | some h =>
            have dh := dot_len (sm.2 h rfl)
            have eT : segT (l, some h) = if l = 0 then cs "below " ++ dotL h else cs "from " ++ dotL l ++ cs " and below " ++ dotL h := eT
            rw [if_neg hz] at eT
            have ive2 := ive.go g7
            obtain ⟨pe, rfl, te, hh⟩ := ie
            refine iteT ⟨_, rfl, _, h, rfl, ive2, fun H6 g8 => ⟨_, _, rfl, rfl, ?_, _, _, rfl, rfl, ?_, ?_⟩⟩
            · rw [ofs_len, SX.S_len, sizeLine_eq]
              omega
            · rw [strcat, SX.S_len, SX.S_len, List.length_append, List.length_append, sizeLine_eq]
              omega
            · rw [strcat, SX.S_cat]
              refine fin H6 (g7.trans g8) _ ?_
              rw [eT]
              simp only [List.append_assoc]
  · rintro σ H1 ⟨g3, ⟨y, z, rfl⟩, hl⟩
    have e1 : R.take xs.length = R := List.take_of_length_le (by omega)
    rw [e1] at hl
    refine ⟨.ref q, rfl, by decide, fun d hd => ⟨strsD ((R.map segT).map S), strsD [], ?_, .lst (.of upd_same) .nil, shaped_strs (fun x hx => ?_), shaped_strs (fun x hx => by cases hx), _, rfl, ?_⟩⟩
    · exact .lst (.of ((Go.new (T := T) (M := []) hd).lst hl)) (strs_dp _)
    · obtain ⟨t, ht, rfl⟩ := List.mem_map.mp hx
      obtain ⟨s, _, rfl⟩ := List.mem_map.mp ht
      exact strOk_S (segT_lt s)
    have gd := Go.new (T := T) (M := []) (o := .lst []) hd
    rw [strs_nil]
    by_cases h1 : R = []
    · rw [h1]
      refine iteF ?_
      have e : rngT R = cs "none" := by unfold rngT rngW; rw [if_neg h0, if_pos h1]; rfl
      have q1 := qq _ (g3.trans gd)
      rw [e, ← S_str] at q1
      exact q1
    · rw [decide_eq_false (by simpa using h1)]
      refine iteT ⟨⟨_, rfl⟩, .ref q, rfl, _, q, (R.map segT).map S, rfl, rfl, .inl (.of (gd.lst hl)), texts_fit (AllS.small ax) lR, ?_⟩
      rw [rng_join h0 h1]
      exact qq _ (g3.trans gd)
end
end K3

namespace K3
open PySem PySem.Spec PyProof.Rows L2
open SX (S)
theorem eqW (p : List Nat) (s : String) : decide (V.str (S p) = V.str (Str.ofString s)) = decide (p = cs s) := by
  rw [S_str, decide_eq_decide]
  constructor
  · intro h
    injection h with h
    exact SX.S_inj h
  · rintro rfl
    rfl
theorem beqW (p : List Nat) (s : String) : eqV (V.str (Str.ofString s)) (V.str (S p)) = decide (p = cs s) := by
  show (Str.ofString s == S p) = _
  rw [S_str, SX.S_beq_eq, decide_eq_decide]
  exact ⟨fun h => h.symm, fun h => h.symm⟩
theorem inW2 (p : List Nat) (s t : String) : inV (V.str (S p)) [V.str (Str.ofString s), V.str (Str.ofString t)] = (decide (p = cs s) || decide (p = cs t)) := by
  show (eqV _ _ || (eqV _ _ || false)) = _
  rw [beqW, beqW, Bool.or_false]
theorem inW4 (p : List Nat) (s t u v : String) : inV (V.str (S p)) [V.str (Str.ofString s), V.str (Str.ofString t), V.str (Str.ofString u), V.str (Str.ofString v)] = (decide (p = cs s) || (decide (p = cs t) || (decide (p = cs u) || decide (p = cs v)))) := by
  show (eqV _ _ || (eqV _ _ || (eqV _ _ || (eqV _ _ || false)))) = _
  rw [beqW, beqW, beqW, beqW, Bool.or_false]
theorem dot_head (n : Nat) : ∃ c r, dotL n = c :: r ∧ 48 ≤ c ∧ c ≤ 57 := by
  have h := TL.numL_ne (n / 1000000000000)
  cases hn : TL.numL (n / 1000000000000) with
  | nil => exact absurd hn h
  | cons c r =>
    have hc := num_digit (n := n / 1000000000000) (c := c) (by rw [hn]; exact List.mem_cons_self ..)
    refine ⟨c, r ++ ([46] ++ (TL.numL (n / 1000000 % 1000000) ++ ([46] ++ TL.numL (n % 1000000)))), ?_, hc⟩
    show TL.numL (n / 1000000000000) ++ _ = _
    rw [hn]
    rfl
theorem dot_no (n : Nat) {p : List Nat} (h : ∀ c r, p = c :: r → ¬ (48 ≤ c ∧ c ≤ 57)) : dotL n ≠ p := fun e => by
  obtain ⟨c, r, e1, h1⟩ := dot_head n
  exact h c r (e.symm.trans e1) h1
theorem lit_no {p : List Nat} (h : (match p with | [] => true | c :: _ => !(decide (48 ≤ c) && decide (c ≤ 57))) = true) : ∀ c r, p = c :: r → ¬ (48 ≤ c ∧ c ≤ 57) := by
  rintro c r rfl ⟨h1, h2⟩
  simp only [h1, h2, decide_true, Bool.and_self, Bool.not_true] at h
  cases h
theorem join_split {W : List (List Nat)} (h0 : W ≠ []) (h : ∀ p ∈ W, WordOk p) : Txt.split (S (TL.joinL [32] W)) (S [32]) = W.map S := by
  rw [SX.split_S (by simp) (by decide)]
  congr 1
  exact SX.spl_join (sep := []) h0 fun p hp hc => (((h p hp).2 32 hc).1) rfl
abbrev wV (W : List (List Nat)) : List V := W.map fun p => V.str (S p)
section
variable {P : Program} {w : World} {K : PySem.W.Frag} {mg : Str → Option Value} {base : Heap} {T : Tbl}
def spWords (T : Tbl) : Sp := fun vs H Q _ => ∃ W : List (List Nat), vs = [.str (S (TL.joinL [32] W))] ∧ W ≠ [] ∧ (∀ p ∈ W, WordOk p) ∧ W.length ≤ 10000 ∧ (TL.joinL [32] W).length ≤ 10000000 ∧ ∀ q H', Go T [] H H' → H' q = some (.lst (wV W)) → Q (.ref q) H'
theorem ok_words_of (D : Top K mg "words_of" s_words_of) : DefF P w K mg base 1 "words_of" ["text"] (spWords T) := by
  refine def_of D sc_words_of bd_words_of (fun vs H Q E ⟨_, e, _⟩ => by rw [e]; rfl) ?_
  rintro f cdv A outer s H vs Q E hr ⟨W, rfl, h0, hW, lW, lT, qq⟩
  refine ⟨_, pss_cons (ps_forW PassesOwn.never (pi_str pe_str) (pg_name (i := 1) sc_words_of.nd rfl (.inl rfl))
      (pss_one (ps_set (i := 0) sc_words_of.nd rfl (.inl rfl) (pe_bm PySem.F.plainAttrs_str PySem.F.slot_str_replace PySem.F.type_str_replace mt_repl0 (pv 0) (pa_cons (pv 1) (pa_cons (pe_op op_add_str (pe_op op_add_str pe_str (pv 1)) pe_str) pa_nil))))))
    (pss_one (ps_ret (pe_lcW (own := [("word", 2)]) sc_words_of.nd (blkOk_by (N := n_words_of) (sc := defScope s_words_of) (by decide +kernel)) (pi_list (pe_split (pv 0) pe_str)) (fun s' H' C cl fp => pg_name (i := 2) sc_words_of.nd rfl (.inl rfl))
      (fun s' H' C cl fp => pts_one (pt_cmpR op_ne (pv 2) pe_str (nomark _))) (fun s' H' C cl fp => pv 2)))), ?_⟩
  have f1 : (cs " ").length = 1 := by decide
  refine ⟨Str.ofString "()", rfl, ?_⟩
  refine for_go (T := T) it_str (fun i σ H' => Go T [] H H' ∧ ∃ y, σ = [some (.str (S (TL.joinL [32] W))), y, none]) ⟨Go.refl, none, rfl⟩ (fun _ _ _ _ _ => trivial) ?_ ?_
  · rintro i x σ H1 H2 hi ⟨g1, y, rfl⟩ g2 it
    obtain ⟨c, hc, rfl⟩ := it
    have hc2 : c = 40 ∨ c = 41 := by
      have h1 : c ∈ (Str.ofString "()").cps.toList := List.mem_of_getElem? (by rw [Array.getElem?_toList]; exact hc)
      have e : (Str.ofString "()").cps.toList = cs "()" := TL.tl_ofString _
      have e2 : cs "()" = [40, 41] := by decide
      rw [e, e2] at h1
      simpa using h1
    have hno : c ∉ (S (TL.joinL [32] W)).cps.toList := fun hm => by
      have hm : c ∈ TL.joinL [32] W := hm
      rcases join_mem hm with z | ⟨p, hp, z⟩
      · have := List.mem_singleton.mp z
        omega
      · have := (hW p hp).2 c z
        omega
    have l1 : (⟨#[c]⟩ : Str).length = 1 := rfl
    refine ⟨_, rfl, rfl, _, rfl, _, rfl, _, _, rfl, rfl, ?_, _, _, rfl, rfl, ?_, _, c, _, rfl, rfl, hno, g1.trans g2, _, rfl⟩
    · rw [ofs_len, f1, l1, sizeLine_eq]
      omega
    · have e : (Str.ofString " " ++ (⟨#[c]⟩ : Str)).length = 2 := by
        have e2 : (⟨#[c]⟩ : Str) = S [c] := rfl
        rw [e2, strcat, SX.S_len, List.length_append, f1]
        rfl
      rw [e, ofs_len, f1, sizeLine_eq]
      omega
  · rintro σ H1 ⟨g1, y, rfl⟩
    have e32 : Str.ofString " " = S [32] := S_str " "
    refine ⟨.str (S (TL.joinL [32] W)), rfl, ⟨_, rfl⟩, S (TL.joinL [32] W), _, rfl, rfl, by decide, by rw [SX.S_len, sizeLine_eq]; omega, fun a ha => ⟨a, rfl, ⟨_, .of upd_same⟩, ?_⟩⟩
    rw [e32, join_split h0 hW]
    have g0 : Go T [] H1 (upd H1 a (.lst ((W.map S).map V.str))) := Go.new ha
    refine lc_go (T := T) (M := []) (it_lst (xs := (W.map S).map V.str)) (fun _ => true) (fun i y _ => ∃ p, W[i]? = some p ∧ y = .str (S p)) (fun _ _ => True) (by rw [List.length_map, List.length_map, sizeLine_eq]; omega) (fun b m => by cases m)
      (fun q H' hq g => .of (g.lst upd_same (by simp only [List.mem_singleton]; rintro rfl; rw [upd_same] at hq; cases hq))) (fun i y q H' H'' _ _ e => e) (fun i x H' Kc Kn hi g it kc _ => ?_) fun q ys H3 hq g3 hl3 pr => ?_
    · rw [List.map_map, List.getElem?_map] at it
      cases hp : W[i]? with
      | none => rw [hp] at it; cases it
      | some p =>
        rw [hp] at it
        obtain rfl : V.str (S p) = x := Option.some.inj it
        have hne : p ≠ cs "" := by
          have e : cs "" = [] := by decide
          rw [e]
          exact (hW p (List.mem_of_getElem? hp)).1
        refine ⟨rfl, _, rfl, rfl, true, ?_, iteT ⟨_, rfl, kc _ _ rfl Go.refl ⟨p, hp, rfl⟩ fun _ _ _ => trivial⟩⟩
        rw [eqW, decide_eq_false hne]
        rfl
    · rw [keep_all, List.length_map, List.length_map] at pr
      have e := map_of (l := W) pr
      exact qq q H3 ((g1.trans g0).trans g3) (by rw [hl3, e])
end
end K3

namespace K3
open PySem PySem.Spec PyProof.Rows L2
open SX (S)
/-- what a word or two say -/
inductive At where
  | all | none
  | frm (n : Nat)
  | bel (n : Nat)
  | ver (n : Nat)
def atW : At → List (List Nat)
  | .all => [cs "all"]
  | .none => [cs "none"]
  | .frm n => [cs "from", dotL n]
  | .bel n => [cs "below", dotL n]
  | .ver n => [dotL n]
def atR : At → Rg
  | .all => [(0, .none)]
  | .none => []
  | .frm n => [(n, .none)]
  | .bel n => stR 0 (some n)
  | .ver n => [(n, nxt n)]
def atOk : At → Prop
  | .frm n => n < MX
  | .bel n => n < MX
  | .ver n => n < MX
  | _ => True
section
variable {P : Program} {w : World} {K : PySem.W.Frag} {mg : Str → Option Value} {base : Heap} {T : Tbl}
def spWordAt (K : PySem.W.Frag) : Sp := fun vs H Q _ => ∃ (l : Addr) (W : List (List Nat)) (j : Nat), vs = [.ref l, .int ((j : Nat) : Int)] ∧ SqL K H l (wV W) ∧ Q (.str (S (W.getD j []))) H
theorem ok_word_at (G : Glo K mg) (D : Top K mg "word_at" s_word_at) : DefF P w K mg base 1 "word_at" ["words", "place"] (spWordAt K) := by
  refine def_of D sc_word_at bd_word_at (fun vs H Q E ⟨_, _, _, e, _⟩ => by rw [e]; rfl) ?_
  rintro f cdv A outer s H vs Q E hr ⟨l, W, j, rfl, hl, qq⟩
  refine ⟨_, pss_one (ps_ret (pe_ifExp (pt_cmpR op_lt (pv 1) (pe_callB (lenK K) (by rfl) (G.free "len" (by decide +kernel)) rfl (pa_cons (pv 0) pa_nil)) (nomark _)) (peIx (ixL K) (pv 0) (pv 1)) pe_str)), ?_⟩
  refine ⟨.int j, rfl, .ref l, rfl, .ref l, W.length, rfl, .inl ⟨_, hl, by rw [List.length_map]⟩, (j : Int), (W.length : Int), rfl, rfl, decide ((j : Int) < (W.length : Int)), rfl, ?_⟩
  by_cases h : j < W.length
  · rw [decide_eq_true (by omega)]
    have e : W[j]? = some (W.getD j []) := by
      rw [List.getD_eq_getElem?_getD, List.getElem?_eq_getElem h]
      rfl
    exact iteT ⟨.ref l, rfl, .int j, rfl, l, _, (j : Int), _, rfl, rfl, hl, atN (by rw [List.getElem?_map, e]; rfl), qq⟩
  · rw [decide_eq_false (by omega)]
    have e : W.getD j [] = cs "" := by
      rw [List.getD_eq_getElem?_getD, List.getElem?_eq_none (by omega)]
      decide
    rw [e, ← S_str] at qq
    exact iteF qq
def spLed (T : Tbl) (K : PySem.W.Frag) : Sp := fun vs H Q _ => ∃ v n R, vs.length = 2 ∧ IsV (SqT K H) v n ∧ ((vs = [.str (S (cs "below")), v] ∧ R = stR 0 (some n)) ∨ (vs = [.str (S (cs "from")), v] ∧ R = [(n, none)])) ∧ GiveR T K H R Q
theorem ok_led_range (G : Glo K mg) (D : Top K mg "led_range" s_led_range) (D1 : DefF P w K mg base 2 "stretch" ["low", "high"] (spStretch T K)) : DefF P w K mg base 3 "led_range" ["word", "version"] (spLed T K) := by
  refine def_of D sc_led_range bd_led_range (fun vs H Q E ⟨_, _, _, e, _⟩ => by rw [e]; rfl) ?_
  rintro f cdv A outer s H vs Q E hr ⟨v, n, R, _, hv, h, qq⟩
  obtain ⟨al, hml, hal⟩ := G.least
  refine ⟨_, pss_cons (ps_if (pt_cmpR op_eq (pv 0) pe_str (nomark _)) (pss_one (ps_ret (pe_D D1 hr (by rfl) (pa_cons (pe_glob (v := .ref al) (by rfl) hml rfl) (pa_cons (pv 1) pa_nil))))) pss_nil)
    (pss_cons (ps_if (pt_cmpR op_eq (pv 0) pe_str (nomark _)) (pss_one (ps_ret (pe_D D1 hr (by rfl) (pa_cons (pv 1) (pa_cons pe_non pa_nil))))) pss_nil) pss_never), ?_⟩
  rcases h with ⟨rfl, rfl⟩ | ⟨rfl, rfl⟩
  · refine ⟨_, rfl, rfl, _, rfl, ?_⟩
    rw [eqW, decide_eq_true rfl]
    exact iteT ⟨v, rfl, _, v, 0, some n, rfl, isV0 (hal _), hv, qq⟩
  · refine ⟨_, rfl, rfl, _, rfl, ?_⟩
    rw [eqW, decide_eq_false (by decide)]
    refine iteF ⟨_, rfl, rfl, _, rfl, ?_⟩
    rw [eqW, decide_eq_true rfl]
    exact iteT ⟨v, rfl, v, .non, n, none, rfl, hv, rfl, qq⟩
/-- a pair: a range, the place behind -/
def GiveP (T : Tbl) (K : PySem.W.Frag) (H : Hp) (R : Rg) (j : Nat) (Q : VK) : Prop := ∀ q r H', Go T [] H H' → SqT K H' q [r, .int ((j : Nat) : Int)] → IsR (SqT K H') r R → Q (.ref q) H'
def spAtom (T : Tbl) (K : PySem.W.Frag) : Sp := fun vs H Q _ => ∃ (l : Addr) (W : List (List Nat)) (j : Nat) (a : At) (rest : List (List Nat)), vs = [.ref l, .int ((j : Nat) : Int)] ∧ SqL K H l (wV W) ∧ W.drop j = atW a ++ rest ∧ atOk a ∧ GiveP T K H (atR a) (j + (atW a).length) Q
theorem drop_at {W : List (List Nat)} {j : Nat} {p : List Nat} {r : List (List Nat)} (h : W.drop j = p :: r) : W.getD j [] = p ∧ W.drop (j + 1) = r := by
  have h1 : W[j]? = some p := by
    have e := congrArg (fun z => z[0]?) h
    simpa using e
  refine ⟨by rw [List.getD_eq_getElem?_getD, h1]; rfl, ?_⟩
  rw [← List.drop_drop, h]
  rfl
theorem tup2 {H : Hp} {r : V} {i : Int} {Q : VK} (h : ∀ p, H p = none → Q (.ref p) (upd H p (.tup [r, .int i]))) : ([r, V.int i] : List V).length ≤ sizeLine ∧ ∀ p, H p = none → Q (.ref p) (upd H p (.tup [r, .int i])) := ⟨by show 2 ≤ sizeLine; decide, h⟩
theorem ok_read_atom (G : Glo K mg) (D : Top K mg "read_atom" s_read_atom) (D1 : DefF P w K mg base 1 "word_at" ["words", "place"] (spWordAt K)) (D2 : DefF P w K mg base 1 "all_of" [] (spAll T K)) (D3 : DefF P w K mg base 1 "none_of" [] (spNone T K))
    (D4 : DefF P w K mg base 2 "version_in" ["word"] (spVerIn T K)) (D5 : DefF P w K mg base 3 "led_range" ["word", "version"] (spLed T K)) (D6 : DefF P w K mg base 3 "just" ["version"] (spJust T K)) : DefF P w K mg base 4 "read_atom" ["words", "place"] (spAtom T K) := by
  refine def_of D sc_read_atom bd_read_atom (fun vs H Q E ⟨_, _, _, _, _, e, _⟩ => by rw [e]; rfl) ?_
  rintro f cdv A outer s H vs Q E hr ⟨l, W, j, a, rest, rfl, hl, hW, ha, qq⟩
  refine ⟨_, pss_cons (ps_set (i := 2) sc_read_atom.nd rfl (.inl rfl) (pe_D D1 (hr.mono (by decide)) (by rfl) (pa_cons (pv 0) (pa_cons (pv 1) pa_nil))))
    (pss_cons (ps_if (pt_cmpR (inQ K) (pv 2) (pe_tup (pa_cons pe_str (pa_cons pe_str pa_nil))) (by rfl))
      (pss_one (ps_ret (pe_tup (pa_cons (pe_ifExp (pt_cmpR op_eq (pv 2) pe_str (nomark _)) (pe_D0 D2 (hr.mono (by decide)) (by rfl)) (pe_D0 D3 (hr.mono (by decide)) (by rfl))) (pa_cons (pe_op op_add (pv 1) pe_int) pa_nil))))) pss_nil)
    (pss_cons (ps_if (pt_cmpR (inQ K) (pv 2) (pe_tup (pa_cons pe_str (pa_cons pe_str (pa_cons pe_str (pa_cons pe_str pa_nil))))) (by rfl))
      (pss_cons (ps_set (i := 3) sc_read_atom.nd rfl (.inl rfl) (pe_D D4 (hr.mono (by decide)) (by rfl) (pa_cons (pe_D D1 (hr.mono (by decide)) (by rfl) (pa_cons (pv 0) (pa_cons (pe_op op_add (pv 1) pe_int) pa_nil))) pa_nil)))
        (pss_cons (ps_if (pt_cmp (pc_isN (pv 3))) pss_never pss_nil)
          (pss_one (ps_ret (pe_tup (pa_cons (pe_D D5 hr (by rfl) (pa_cons (pv 2) (pa_cons (pv 3) pa_nil))) (pa_cons (pe_op op_add (pv 1) pe_int) pa_nil))))))) pss_nil)
    (pss_cons (ps_set (i := 3) sc_read_atom.nd rfl (.inl rfl) (pe_D D4 (hr.mono (by decide)) (by rfl) (pa_cons (pv 2) pa_nil)))
      (pss_cons (ps_if (pt_cmp (pc_isN (pv 3))) pss_never pss_nil)
        (pss_one (ps_ret (pe_tup (pa_cons (pe_D D6 hr (by rfl) (pa_cons (pv 3) pa_nil)) (pa_cons (pe_op op_add (pv 1) pe_int) pa_nil))))))))), ?_⟩
  -- the end of each road: a range r at H1, the sum, the tuple
  have fin : ∀ (r : V) (R : Rg) (k : Nat) (H1 : Hp), R = atR a → k = (atW a).length → Go T [] H H1 → IsR (SqT K H1) r R → ∀ p, H1 p = none → Q (.ref p) (upd H1 p (.tup [r, .int ((j : Int) + (k : Int))])) := by
    rintro r R k H1 rfl rfl g1 h1 p hp
    have g2 : Go T [] H1 (upd H1 p (.tup [r, .int ((j : Int) + ((atW a).length : Int))])) := Go.new hp
    refine qq p r _ (g1.trans g2) (.of ?_) (h1.go g2)
    rw [upd_same]
    have e : ((j : Int) + ((atW a).length : Int)) = ((j + (atW a).length : Nat) : Int) := by omega
    rw [e]
  cases a with
  | all =>
    obtain ⟨e1, e2⟩ := drop_at (show W.drop j = cs "all" :: rest from hW)
    refine ⟨.ref l, rfl, .int j, rfl, l, W, j, rfl, hl, ?_⟩
    rw [e1]
    refine ⟨_, rfl, by show 2 ≤ sizeLine; decide, fun b hb => ?_⟩
    refine ⟨b, _, rfl, .inr (.of upd_same), rfl, rfl, true, congrArg V.bl ((inW2 _ _ _).trans (by decide)), iteT ?_⟩
    refine ⟨_, rfl, rfl, true, congrArg V.bl ((eqW _ _).trans (by decide)), iteT ⟨rfl, fun r H1 g1 h1 => ⟨_, rfl, _, _, rfl, rfl, tup2 ?_⟩⟩⟩
    exact fin r _ 1 H1 rfl rfl ((Go.new hb).trans g1) h1
  | none =>
    obtain ⟨e1, e2⟩ := drop_at (show W.drop j = cs "none" :: rest from hW)
    refine ⟨.ref l, rfl, .int j, rfl, l, W, j, rfl, hl, ?_⟩
    rw [e1]
    refine ⟨_, rfl, by show 2 ≤ sizeLine; decide, fun b hb => ?_⟩
    refine ⟨b, _, rfl, .inr (.of upd_same), rfl, rfl, true, congrArg V.bl ((inW2 _ _ _).trans (by decide)), iteT ?_⟩
    refine ⟨_, rfl, rfl, false, congrArg V.bl ((eqW _ _).trans (by decide)), iteF ⟨rfl, fun r H1 g1 h1 => ⟨_, rfl, _, _, rfl, rfl, tup2 ?_⟩⟩⟩
    exact fin r _ 1 H1 rfl rfl ((Go.new hb).trans g1) h1
  | frm n =>
    obtain ⟨e1, e2⟩ := drop_at (show W.drop j = cs "from" :: (dotL n :: rest) from hW)
    obtain ⟨e3, e4⟩ := drop_at e2
    refine ⟨.ref l, rfl, .int j, rfl, l, W, j, rfl, hl, ?_⟩
    rw [e1]
    refine ⟨_, rfl, by show 2 ≤ sizeLine; decide, fun b hb => ?_⟩
    have gb := Go.new (T := T) (M := []) (o := .tup [V.str (Str.ofString "all"), V.str (Str.ofString "none")]) hb
    refine ⟨b, _, rfl, .inr (.of upd_same), rfl, rfl, false, congrArg V.bl ((inW2 _ _ _).trans (by decide)), iteF ?_⟩
    refine ⟨_, rfl, by show 4 ≤ sizeLine; decide, fun c hc => ?_⟩
    have gc := Go.new (T := T) (M := []) (o := .tup [V.str (Str.ofString "from"), V.str (Str.ofString "below"), V.str (Str.ofString "near"), V.str (Str.ofString "close")]) hc
    have g0 := gb.trans gc
    refine ⟨c, _, rfl, .inr (.of upd_same), rfl, rfl, true, congrArg V.bl ((inW4 _ _ _ _ _).trans (by decide)), iteT ?_⟩
    refine ⟨.ref l, rfl, .int j, rfl, _, _, rfl, rfl, l, W, j + 1, rfl, g0.sql hl, ?_⟩
    rw [e3]
    refine ⟨n, rfl, ha, fun v H1 g1 hv => ⟨v, rfl, _, rfl, ?_⟩⟩
    have hv' := hv
    obtain ⟨pv1, rfl, _, _⟩ := hv'
    refine iteF ⟨_, rfl, _, rfl, _, n, _, rfl, hv, .inr ⟨rfl, rfl⟩, fun r H2 g2 h2 => ⟨_, rfl, _, _, rfl, rfl, tup2 ?_⟩⟩
    exact fin r _ 2 H2 rfl rfl ((g0.trans g1).trans g2) h2
  | bel n =>
    obtain ⟨e1, e2⟩ := drop_at (show W.drop j = cs "below" :: (dotL n :: rest) from hW)
    obtain ⟨e3, e4⟩ := drop_at e2
    refine ⟨.ref l, rfl, .int j, rfl, l, W, j, rfl, hl, ?_⟩
    rw [e1]
    refine ⟨_, rfl, by show 2 ≤ sizeLine; decide, fun b hb => ?_⟩
    have gb := Go.new (T := T) (M := []) (o := .tup [V.str (Str.ofString "all"), V.str (Str.ofString "none")]) hb
    refine ⟨b, _, rfl, .inr (.of upd_same), rfl, rfl, false, congrArg V.bl ((inW2 _ _ _).trans (by decide)), iteF ?_⟩
    refine ⟨_, rfl, by show 4 ≤ sizeLine; decide, fun c hc => ?_⟩
    have gc := Go.new (T := T) (M := []) (o := .tup [V.str (Str.ofString "from"), V.str (Str.ofString "below"), V.str (Str.ofString "near"), V.str (Str.ofString "close")]) hc
    have g0 := gb.trans gc
    refine ⟨c, _, rfl, .inr (.of upd_same), rfl, rfl, true, congrArg V.bl ((inW4 _ _ _ _ _).trans (by decide)), iteT ?_⟩
    refine ⟨.ref l, rfl, .int j, rfl, _, _, rfl, rfl, l, W, j + 1, rfl, g0.sql hl, ?_⟩
    rw [e3]
    refine ⟨n, rfl, ha, fun v H1 g1 hv => ⟨v, rfl, _, rfl, ?_⟩⟩
    have hv' := hv
    obtain ⟨pv1, rfl, _, _⟩ := hv'
    refine iteF ⟨_, rfl, _, rfl, _, n, _, rfl, hv, .inl ⟨rfl, rfl⟩, fun r H2 g2 h2 => ⟨_, rfl, _, _, rfl, rfl, tup2 ?_⟩⟩
    exact fin r _ 2 H2 rfl rfl ((g0.trans g1).trans g2) h2
  | ver n =>
    obtain ⟨e1, e2⟩ := drop_at (show W.drop j = dotL n :: rest from hW)
    have no : ∀ s : String, (match cs s with | [] => true | c :: _ => !(decide (48 ≤ c) && decide (c ≤ 57))) = true → decide (dotL n = cs s) = false := fun s h => decide_eq_false (dot_no n (lit_no h))
    refine ⟨.ref l, rfl, .int j, rfl, l, W, j, rfl, hl, ?_⟩
    rw [e1]
    refine ⟨_, rfl, by show 2 ≤ sizeLine; decide, fun b hb => ?_⟩
    have gb := Go.new (T := T) (M := []) (o := .tup [V.str (Str.ofString "all"), V.str (Str.ofString "none")]) hb
    refine ⟨b, _, rfl, .inr (.of upd_same), rfl, rfl, false, congrArg V.bl ((inW2 _ _ _).trans (by rw [no "all" (by decide), no "none" (by decide)]; rfl)), iteF ?_⟩
    refine ⟨_, rfl, by show 4 ≤ sizeLine; decide, fun c hc => ?_⟩
    have gc := Go.new (T := T) (M := []) (o := .tup [V.str (Str.ofString "from"), V.str (Str.ofString "below"), V.str (Str.ofString "near"), V.str (Str.ofString "close")]) hc
    have g0 := gb.trans gc
    refine ⟨c, _, rfl, .inr (.of upd_same), rfl, rfl, false, congrArg V.bl ((inW4 _ _ _ _ _).trans (by rw [no "from" (by decide), no "below" (by decide), no "near" (by decide), no "close" (by decide)]; rfl)), iteF ?_⟩
    refine ⟨_, rfl, n, rfl, ha, fun v H1 g1 hv => ⟨v, rfl, _, rfl, ?_⟩⟩
    have hv' := hv
    obtain ⟨pv1, rfl, _, _⟩ := hv'
    refine iteF ⟨_, rfl, _, n, rfl, hv, fun r H2 g2 h2 => ⟨_, rfl, _, _, rfl, rfl, tup2 ?_⟩⟩
    exact fin r _ 1 H2 rfl rfl ((g0.trans g1).trans g2) h2
end
end K3

/-! the words of a range as phrases: atoms joined by and, those joined by or -/
namespace K3
open PySem PySem.Spec PyProof.Rows L2
def moreA (as : List At) : List (List Nat) := as.flatMap fun b => cs "and" :: atW b
abbrev Ph := At × List At
def phW (p : Ph) : List (List Nat) := atW p.1 ++ moreA p.2
def morePh (ps : List Ph) : List (List Nat) := ps.flatMap fun p => cs "or" :: phW p
def phAt (p : Ph) : List At := p.1 :: p.2
def phIn (x : Nat) (p : Ph) : Bool := (phAt p).all fun a => inR x (atR a)
def phOk (p : Ph) : Prop := (∀ a ∈ phAt p, atOk a) ∧ p.2.length ≤ 2
theorem atR_can : ∀ a : At, Can 0 (atR a)
  | .all => ⟨Nat.le_refl _, rfl⟩
  | .none => trivial
  | .frm n => ⟨Nat.zero_le _, rfl⟩
  | .bel n => by
    show Can 0 (stR 0 (some n))
    unfold stR
    split
    · exact ⟨Nat.le_refl _, by rename_i h; exact of_decide_eq_true h, trivial⟩
    · trivial
  | .ver n => by
    show Can 0 [(n, nxt n)]
    cases h : nxt n with
    | none => exact ⟨Nat.zero_le _, rfl⟩
    | some k =>
      unfold nxt at h
      split at h
      · cases h
        exact ⟨Nat.zero_le _, Nat.lt_succ_self n, trivial⟩
      · cases h
theorem atR_len (a : At) : (atR a).length ≤ 1 := by
  cases a <;> simp [atR, stR_len]
def segP : Sg → Ph
  | (l, e) => if e = nxt l then (.ver l, []) else match e with
    | none => (.frm l, [])
    | some h => if l = 0 then (.bel h, []) else (.frm l, [.bel h])
theorem segP_eq (l : Nat) (e : Option Nat) : segP (l, e) = if e = nxt l then (.ver l, []) else match e with
    | none => (.frm l, [])
    | some h => if l = 0 then (.bel h, []) else (.frm l, [.bel h]) := rfl
theorem segP_W (s : Sg) : phW (segP s) = segW s := by
  obtain ⟨l, e⟩ := s
  rw [segP_eq, segW_eq]
  split
  · rfl
  · cases e with
    | none => rfl
    | some h =>
      simp only
      split <;> rfl
theorem segP_in {l : Nat} {e : Option Nat} (h : ∀ k, e = some k → l < k) (x : Nat) : phIn x (segP (l, e)) = (decide (l ≤ x) && below x e) := by
  rw [segP_eq]
  split
  · rename_i he
    show (inR x [(l, nxt l)] && true) = _
    rw [← he, inR_any]
    simp
  · cases e with
    | none =>
      show (inR x [(l, none)] && true) = _
      rw [inR_any]
      simp
    | some k =>
      have hk := h k rfl
      have hb : ∀ x, inR x (atR (.bel k)) = decide (x < k) := fun x => by
        show inR x (stR 0 (some k)) = _
        unfold stR aboveB
        rw [if_pos (decide_eq_true (by omega)), inR_any]
        simp [below]
      simp only
      split
      · rename_i h0
        show (inR x (atR (.bel k)) && true) = _
        rw [hb, h0]
        simp [below]
      · show (inR x [(l, none)] && (inR x (atR (.bel k)) && true)) = _
        rw [hb, inR_any]
        simp [below]
theorem segP_ok {s : Sg} (h : s.1 < MX ∧ ∀ k, s.2 = some k → k < MX) : phOk (segP s) := by
  obtain ⟨l, e⟩ := s
  rw [segP_eq]
  split
  · exact ⟨fun a ha => by rw [List.mem_singleton.mp ha]; exact h.1, Nat.zero_le _⟩
  · cases e with
    | none => exact ⟨fun a ha => by rw [List.mem_singleton.mp ha]; exact h.1, Nat.zero_le _⟩
    | some k =>
      simp only
      split
      · exact ⟨fun a ha => by rw [List.mem_singleton.mp ha]; exact h.2 k rfl, Nat.zero_le _⟩
      · refine ⟨fun a ha => ?_, by simp⟩
        rcases List.mem_cons.mp ha with rfl | ha
        · exact h.1
        · rw [List.mem_singleton.mp ha]
          exact h.2 k rfl
theorem orW_ph : ∀ (s : Sg) (r : Rg), orW (s :: r) = phW (segP s) ++ morePh (r.map segP)
  | s, [] => by
    show segW s = _
    rw [segP_W]
    simp [morePh]
  | s, t :: r => by
    show segW s ++ cs "or" :: orW (t :: r) = _
    rw [orW_ph t r, ← segP_W s]
    simp [morePh]
/-- the phrases that say R -/
theorem phrases {R : Rg} (c : Can 0 R) (sm : Small R) : ∃ (p : Ph) (ps : List Ph), rngW R = phW p ++ morePh ps ∧ (∀ q ∈ p :: ps, phOk q) ∧ ps.length ≤ R.length ∧ ∀ x, inR x R = (p :: ps).any (phIn x) := by
  unfold rngW
  by_cases h0 : R = [(0, none)]
  · rw [if_pos h0]
    refine ⟨(.all, []), [], rfl, fun q hq => ?_, Nat.zero_le _, fun x => ?_⟩
    · rw [List.mem_singleton.mp hq]
      exact ⟨fun a ha => by rw [List.mem_singleton.mp ha]; trivial, Nat.zero_le _⟩
    · rw [h0]
      show _ = ((inR x [(0, none)] && true) || false)
      simp
  rw [if_neg h0]
  by_cases h1 : R = []
  · rw [if_pos h1]
    refine ⟨(.none, []), [], rfl, fun q hq => ?_, Nat.zero_le _, fun x => ?_⟩
    · rw [List.mem_singleton.mp hq]
      exact ⟨fun a ha => by rw [List.mem_singleton.mp ha]; trivial, Nat.zero_le _⟩
    · rw [h1]
      rfl
  rw [if_neg h1]
  cases R with
  | nil => exact absurd rfl h1
  | cons s r =>
    refine ⟨segP s, r.map segP, orW_ph s r, fun q hq => ?_, by simp, fun x => ?_⟩
    · rw [← List.map_cons] at hq
      obtain ⟨t, ht, rfl⟩ := List.mem_map.mp hq
      exact segP_ok (sm t ht)
    · rw [← List.map_cons, List.any_map, inR_any]
      have key : ∀ (l : Rg), (∀ t ∈ l, ∀ k, t.2 = some k → t.1 < k) → (l.any fun s => decide (s.1 ≤ x) && below x s.2) = l.any (phIn x ∘ segP) := by
        intro l
        induction l with
        | nil => intro _; rfl
        | cons t l ih =>
          intro h
          rw [List.any_cons, List.any_cons, ih fun u hu => h u (List.mem_cons_of_mem _ hu)]
          congr 1
          obtain ⟨a, b⟩ := t
          exact (segP_in (h (a, b) (List.mem_cons_self ..)) x).symm
      exact key _ fun t ht k hk => can_seg c t ht k hk
theorem at_first (a : At) : ∃ p r, atW a = p :: r ∧ p ≠ cs "(" ∧ p ≠ cs "not" := by
  cases a with
  | all => exact ⟨_, _, rfl, by decide, by decide⟩
  | none => exact ⟨_, _, rfl, by decide, by decide⟩
  | frm n => exact ⟨_, _, rfl, by decide, by decide⟩
  | bel n => exact ⟨_, _, rfl, by decide, by decide⟩
  | ver n => exact ⟨_, _, rfl, dot_no n (lit_no (by decide)), dot_no n (lit_no (by decide))⟩
theorem drop_head {W rest : List (List Nat)} {j : Nat} {w : List Nat} (h : W.drop j = rest) (hw : w ≠ []) (hr : rest.head? ≠ some w) : W.getD j [] ≠ w := by
  cases rest with
  | nil =>
    have hl : W.length ≤ j := by simpa using h
    rw [List.getD_eq_getElem?_getD, List.getElem?_eq_none hl]
    exact fun e => hw e.symm
  | cons p r =>
    rw [(drop_at h).1]
    intro e
    exact hr (by rw [← e]; rfl)
end K3

namespace K3
open PySem PySem.Spec PyProof.Rows L2
open SX (S)
section
variable {P : Program} {w : World} {K : PySem.W.Frag} {mg : Str → Option Value} {base : Heap} {T : Tbl}
abbrev vJ (j : Nat) : V := .int ((j : Nat) : Int)
def spTerm (T : Tbl) (K : PySem.W.Frag) : Sp := fun vs H Q _ => ∃ (l : Addr) (W : List (List Nat)) (j : Nat) (a : At) (rest : List (List Nat)), vs = [.ref l, vJ j, .int 0] ∧ SqL K H l (wV W) ∧ W.drop j = atW a ++ rest ∧ atOk a ∧ GiveP T K H (atR a) (j + (atW a).length) Q
theorem ok_read_term (G : Glo K mg) (D : Top K mg "read_term" s_read_term) (D1 : DefF P w K mg base 1 "word_at" ["words", "place"] (spWordAt K)) (D2 : DefF P w K mg base 4 "read_atom" ["words", "place"] (spAtom T K)) : DefF P w K mg base 5 "read_term" ["words", "place", "deep"] (spTerm T K) := by
  refine def_of D sc_read_term bd_read_term (fun vs H Q E ⟨_, _, _, _, _, e, _⟩ => by rw [e]; rfl) ?_
  rintro f cdv A outer s H vs Q E hr ⟨l, W, j, a, rest, rfl, hl, hW, ha, qq⟩
  refine ⟨_, pss_cons (ps_set (i := 3) sc_read_term.nd rfl (.inl rfl) (pe_D D1 (hr.mono (by decide)) (by rfl) (pa_cons (pv 0) (pa_cons (pv 1) pa_nil))))
    (pss_cons (ps_if (pt_cmpR (ninQ K) (pv 3) (pe_tup (pa_cons pe_str (pa_cons pe_str pa_nil))) (by rfl)) (pss_one (ps_ret (pe_D D2 hr (by rfl) (pa_cons (pv 0) (pa_cons (pv 1) pa_nil))))) pss_nil) pss_never), ?_⟩
  obtain ⟨p, r, ep, n1, n2⟩ := at_first a
  have hW2 : W.drop j = p :: (r ++ rest) := by rw [hW, ep]; rfl
  obtain ⟨e1, e2⟩ := drop_at hW2
  refine ⟨.ref l, rfl, _, rfl, l, W, j, rfl, hl, ?_⟩
  rw [e1]
  refine ⟨_, rfl, by show 2 ≤ sizeLine; decide, fun b hb => ?_⟩
  have gb := Go.new (T := T) (M := []) (o := .tup [V.str (Str.ofString "("), V.str (Str.ofString "not")]) hb
  refine ⟨b, _, rfl, .inr (.of upd_same), rfl, rfl, true, ?_, iteT ⟨.ref l, rfl, _, rfl, l, W, j, a, rest, rfl, gb.sql hl, hW, ha, fun q r H1 g1 h1 h2 => qq q r H1 (gb.trans g1) h1 h2⟩⟩
  show V.bl (!inV _ _) = _
  rw [inW2, decide_eq_false n1, decide_eq_false n2]
  rfl
def spMeets (T : Tbl) (K : PySem.W.Frag) : Sp := fun vs H Q _ => ∃ (l : Addr) (W : List (List Nat)) (j : Nat) (p : Ph) (rest : List (List Nat)), vs = [.ref l, vJ j, .int 0] ∧ SqL K H l (wV W) ∧ W.drop j = phW p ++ rest ∧ rest.head? ≠ some (cs "and") ∧ phOk p ∧ LamX.Tabs T H ∧
  ∀ q r H' R, Go T [] H H' → SqT K H' q [r, vJ (j + (phW p).length)] → IsR (SqT K H') r R → Can 0 R → (∀ x, inR x R = phIn x p) → R.length ≤ 20 → Q (.ref q) H'
theorem ok_read_meets (D : Top K mg "read_meets" s_read_meets) (D1 : DefF P w K mg base 1 "word_at" ["words", "place"] (spWordAt K)) (D2 : DefF P w K mg base 5 "read_term" ["words", "place", "deep"] (spTerm T K)) (D3 : DefF P w K mg base 5 "meet" ["one", "other"] (spMeet T K)) :
    DefF P w K mg base 6 "read_meets" ["words", "place", "deep"] (spMeets T K) := by
  refine def_of D sc_read_meets bd_read_meets (fun vs H Q E ⟨_, _, _, _, _, e, _⟩ => by rw [e]; rfl) ?_
  rintro f cdv A outer s H vs Q E hr ⟨l, W, j, ⟨a, as⟩, rest, rfl, hl, hW, hrest, ⟨ok1, ok2⟩, tabs, qq⟩
  refine ⟨_, pss_cons (ps_asg (pe_D D2 hr (by rfl) (pa_cons (pv 0) (pa_cons (pv 1) (pa_cons (pv 2) pa_nil)))) (pgT K 2 (pgs_cons (pg_name (i := 3) sc_read_meets.nd rfl (.inl rfl)) (pgs_cons (pg_name (i := 1) sc_read_meets.nd rfl (.inl rfl)) pgs_nil))))
    (pss_cons (ps_while PassesOwn.never (pt_cmpR op_eq (pe_D D1 (hr.mono (by decide)) (by rfl) (pa_cons (pv 0) (pa_cons (pv 1) pa_nil))) pe_str (nomark _))
      (pss_cons (ps_asg (pe_D D2 hr (by rfl) (pa_cons (pv 0) (pa_cons (pe_op op_add (pv 1) pe_int) (pa_cons (pv 2) pa_nil)))) (pgT K 2 (pgs_cons (pg_name (i := 4) sc_read_meets.nd rfl (.inl rfl)) (pgs_cons (pg_name (i := 1) sc_read_meets.nd rfl (.inl rfl)) pgs_nil))))
        (pss_one (ps_set (i := 3) sc_read_meets.nd rfl (.inl rfl) (pe_D D3 hr (by rfl) (pa_cons (pv 3) (pa_cons (pv 4) pa_nil)))))))
    (pss_one (ps_ret (pe_tup (pa_cons (pv 3) (pa_cons (pv 1) pa_nil)))))), ?_⟩
  refine ⟨_, rfl, _, rfl, _, rfl, l, W, j, a, moreA as ++ rest, rfl, hl, by rw [hW]; simp [phW], ok1 a (by simp [phAt]), fun q r H1 g1 hq hr1 => ?_⟩
  refine ⟨q, _, rfl, hq, rfl, _, _, rfl, _, _, rfl, rfl, ?_⟩
  refine ⟨fun m σ H' => ∃ (jj : Nat) (r : V) (y : Option V) (R : Rg) (ds rs : List At), σ = [some (.ref l), some (vJ jj), some (.int 0), some r, y] ∧ Go T [] H H' ∧ rs.length = m ∧ W.drop jj = moreA rs ++ rest ∧ jj + (moreA rs).length = j + (phW (a, as)).length ∧ IsR (SqT K H') r R ∧ Can 0 R ∧
    (∀ x, inR x R = ds.all fun a => inR x (atR a)) ∧ a :: as = ds ++ rs ∧ R.length + 4 ≤ 5 * ds.length,
    ⟨as.length, j + (atW a).length, r, none, atR a, [a], as, rfl, g1, rfl, ?_, ?_, hr1, atR_can a, fun x => ?_, rfl, ?_⟩, ?_⟩
  · rw [← List.drop_drop, hW]
    simp [phW]
  · simp [phW]
    omega
  · simp
  · have := atR_len a
    show _ ≤ 5
    omega
  · rintro m σ H2 ⟨jj, r, y, R, ds, rs, rfl, g2, rfl, hd, hj, hr2, cR, eR, eds, lR⟩
    have hl2 := g2.sql hl
    refine ⟨_, rfl, _, rfl, l, W, jj, rfl, hl2, rfl, _, rfl, ?_⟩
    rw [eqW]
    cases rs with
    | nil =>
      rw [decide_eq_false (drop_head hd (by decide) hrest)]
      refine iteF ⟨_, rfl, _, rfl, by show 2 ≤ sizeLine; decide, fun p hp => ?_⟩
      have gp := Go.new (T := T) (M := []) (o := .tup [r, vJ jj]) hp
      rw [List.append_nil] at eds
      have hlen : ds.length ≤ 3 := by
        rw [← eds]
        show as.length + 1 ≤ 3
        have : as.length ≤ 2 := ok2
        omega
      refine qq p r _ R (g2.trans gp) (.of ?_) (hr2.go gp) cR (fun x => ?_) (by omega)
      · rw [upd_same]
        have e : jj = j + (phW (a, as)).length := by simpa [moreA] using hj
        rw [e]
      · rw [eR, ← eds]
        rfl
    | cons b rs =>
      have hd2 : W.drop jj = cs "and" :: (atW b ++ (moreA rs ++ rest)) := by rw [hd]; simp [moreA]
      obtain ⟨e1, e2⟩ := drop_at hd2
      rw [e1, decide_eq_true rfl]
      have hb : atOk b := ok1 b (by show b ∈ a :: as; rw [eds]; simp)
      refine iteT ⟨_, fun σ' H' h => ⟨rs.length, Nat.lt_succ_self _, h⟩, ?_⟩
      refine ⟨_, rfl, _, rfl, _, _, rfl, rfl, _, rfl, l, W, jj + 1, b, moreA rs ++ rest, rfl, hl2, e2, hb, fun q2 r2 H3 g3 hq3 hr3 => ?_⟩
      refine ⟨q2, _, rfl, hq3, rfl, _, _, rfl, _, _, rfl, rfl, ?_⟩
      have l1 := atR_len b
      have hlen : ds.length ≤ 3 := by
        have e := congrArg List.length eds
        simp only [List.length_cons, List.length_append] at e
        have : as.length ≤ 2 := ok2
        omega
      refine ⟨r, rfl, r2, rfl, r, r2, R, atR b, rfl, hr2.go g3, hr3, cR, atR_can b, by omega, by omega, g3.tabs (g2.tabs tabs), fun r4 H4 R4 g4 h4 c4 e4 l4 => ?_⟩
      refine ⟨jj + 1 + (atW b).length, r4, _, R4, ds ++ [b], rs, rfl, (g2.trans g3).trans g4, rfl, ?_, ?_, h4, c4, fun x => ?_, by rw [eds]; simp, ?_⟩
      · rw [← List.drop_drop, e2]
        simp
      · have e : (moreA (b :: rs)).length = 1 + (atW b).length + (moreA rs).length := by simp [moreA]; omega
        omega
      · rw [e4, eR]
        simp
      · rw [List.length_append, List.length_singleton]
        omega
def spJoined (T : Tbl) (K : PySem.W.Frag) : Sp := fun vs H Q _ => ∃ (l : Addr) (W : List (List Nat)) (p : Ph) (ps : List Ph), vs = [.ref l, .int 0, .int 0] ∧ SqL K H l (wV W) ∧ W = phW p ++ morePh ps ∧ (∀ q ∈ p :: ps, phOk q) ∧ ps.length ≤ 200 ∧ LamX.Tabs T H ∧
  ∀ q r H' R, Go T [] H H' → SqT K H' q [r, vJ W.length] → IsR (SqT K H') r R → Can 0 R → (∀ x, inR x R = (p :: ps).any (phIn x)) → Q (.ref q) H'
theorem more_head (ps : List Ph) : (morePh ps).head? ≠ some (cs "and") := by
  cases ps with
  | nil => simp [morePh]
  | cons p ps =>
    show some (cs "or") ≠ some (cs "and")
    decide
theorem ok_read_joined (D : Top K mg "read_joined" s_read_joined) (D1 : DefF P w K mg base 1 "word_at" ["words", "place"] (spWordAt K)) (D2 : DefF P w K mg base 6 "read_meets" ["words", "place", "deep"] (spMeets T K)) (D3 : DefF P w K mg base 4 "union" ["one", "other"] (spUnion T K)) :
    DefF P w K mg base 7 "read_joined" ["words", "place", "deep"] (spJoined T K) := by
  refine def_of D sc_read_joined bd_read_joined (fun vs H Q E ⟨_, _, _, _, e, _⟩ => by rw [e]; rfl) ?_
  rintro f cdv A outer s H vs Q E hr ⟨l, W, p, ps, rfl, hl, hW, oks, lps, tabs, qq⟩
  refine ⟨_, pss_cons (ps_asg (pe_D D2 hr (by rfl) (pa_cons (pv 0) (pa_cons (pv 1) (pa_cons (pv 2) pa_nil)))) (pgT K 2 (pgs_cons (pg_name (i := 3) sc_read_joined.nd rfl (.inl rfl)) (pgs_cons (pg_name (i := 1) sc_read_joined.nd rfl (.inl rfl)) pgs_nil))))
    (pss_cons (ps_while PassesOwn.never (pt_cmpR op_eq (pe_D D1 (hr.mono (by decide)) (by rfl) (pa_cons (pv 0) (pa_cons (pv 1) pa_nil))) pe_str (nomark _))
      (pss_cons (ps_asg (pe_D D2 hr (by rfl) (pa_cons (pv 0) (pa_cons (pe_op op_add (pv 1) pe_int) (pa_cons (pv 2) pa_nil)))) (pgT K 2 (pgs_cons (pg_name (i := 4) sc_read_joined.nd rfl (.inl rfl)) (pgs_cons (pg_name (i := 1) sc_read_joined.nd rfl (.inl rfl)) pgs_nil))))
        (pss_one (ps_set (i := 3) sc_read_joined.nd rfl (.inl rfl) (pe_D D3 (hr.mono (by decide)) (by rfl) (pa_cons (pv 3) (pa_cons (pv 4) pa_nil)))))))
    (pss_one (ps_ret (pe_tup (pa_cons (pv 3) (pa_cons (pv 1) pa_nil)))))), ?_⟩
  refine ⟨_, rfl, _, rfl, _, rfl, l, W, 0, p, morePh ps, rfl, hl, by rw [hW]; rfl, more_head ps, oks p (by simp), tabs, fun q r H1 R0 g1 hq hr1 c1 e1 l1 => ?_⟩
  refine ⟨q, _, rfl, hq, rfl, _, _, rfl, _, _, rfl, rfl, ?_⟩
  refine ⟨fun m σ H' => ∃ (jj : Nat) (r : V) (y : Option V) (R : Rg) (ds rs : List Ph), σ = [some (.ref l), some (vJ jj), some (.int 0), some r, y] ∧ Go T [] H H' ∧ rs.length = m ∧ W.drop jj = morePh rs ∧ jj + (morePh rs).length = W.length ∧ IsR (SqT K H') r R ∧ Can 0 R ∧
    (∀ x, inR x R = ds.any (phIn x)) ∧ p :: ps = ds ++ rs ∧ R.length ≤ 20 * ds.length,
    ⟨ps.length, 0 + (phW p).length, r, none, R0, [p], ps, rfl, g1, rfl, ?_, ?_, hr1, c1, fun x => ?_, rfl, ?_⟩, ?_⟩
  · rw [hW]
    simp
  · rw [hW]
    simp
  · rw [e1]
    simp
  · show _ ≤ 20
    omega
  · rintro m σ H2 ⟨jj, r, y, R, ds, rs, rfl, g2, rfl, hd, hj, hr2, cR, eR, eds, lR⟩
    have hl2 := g2.sql hl
    have hlen : ds.length ≤ 201 := by
      have e := congrArg List.length eds
      simp only [List.length_cons, List.length_append] at e
      omega
    refine ⟨_, rfl, _, rfl, l, W, jj, rfl, hl2, rfl, _, rfl, ?_⟩
    rw [eqW]
    cases rs with
    | nil =>
      rw [decide_eq_false (drop_head hd (by decide) (by simp [morePh]))]
      refine iteF ⟨_, rfl, _, rfl, by show 2 ≤ sizeLine; decide, fun p hp => ?_⟩
      have gp := Go.new (T := T) (M := []) (o := .tup [r, vJ jj]) hp
      rw [List.append_nil] at eds
      refine qq p r _ R (g2.trans gp) (.of ?_) (hr2.go gp) cR (fun x => ?_)
      · rw [upd_same]
        have e : jj = W.length := by simpa [morePh] using hj
        rw [e]
      · rw [eR, ← eds]
    | cons b rs =>
      have hd2 : W.drop jj = cs "or" :: (phW b ++ morePh rs) := by rw [hd]; simp [morePh]
      obtain ⟨e1, e2⟩ := drop_at hd2
      rw [e1, decide_eq_true rfl]
      have hb : phOk b := oks b (by rw [eds]; simp)
      refine iteT ⟨_, fun σ' H' h => ⟨rs.length, Nat.lt_succ_self _, h⟩, ?_⟩
      refine ⟨_, rfl, _, rfl, _, _, rfl, rfl, _, rfl, l, W, jj + 1, b, morePh rs, rfl, hl2, e2, more_head rs, hb, g2.tabs tabs, fun q2 r2 H3 R3 g3 hq3 hr3 c3 e3 l3 => ?_⟩
      refine ⟨q2, _, rfl, hq3, rfl, _, _, rfl, _, _, rfl, rfl, ?_⟩
      refine ⟨r, rfl, r2, rfl, r, r2, R, R3, rfl, hr2.go g3, hr3, cR, c3, by omega, by omega, g3.tabs (g2.tabs tabs), fun r4 H4 R4 g4 h4 c4 e4 l4 => ?_⟩
      refine ⟨jj + 1 + (phW b).length, r4, _, R4, ds ++ [b], rs, rfl, (g2.trans g3).trans g4, rfl, ?_, ?_, h4, c4, fun x => ?_, by rw [eds]; simp, ?_⟩
      · rw [← List.drop_drop, e2]
        simp
      · have e : (morePh (b :: rs)).length = 1 + (phW b).length + (morePh rs).length := by simp [morePh]; omega
        omega
      · rw [e4, eR, e3]
        simp
      · rw [List.length_append, List.length_singleton]
        omega
end
end K3

namespace K3
open PySem PySem.Spec PyProof.Rows L2
open SX (S)
section
variable {P : Program} {w : World} {K : PySem.W.Frag} {mg : Str → Option Value} {base : Heap} {T : Tbl}
def spRangeIn (T : Tbl) (K : PySem.W.Frag) : Sp := fun vs H Q _ => ∃ (l : Addr) (R : Rg), vs = [.ref l] ∧ SqL K H l (wV (rngW R)) ∧ Can 0 R ∧ Small R ∧ R.length ≤ 200 ∧ LamX.Tabs T H ∧ GiveR T K H R Q
theorem ok_range_in (G : Glo K mg) (D : Top K mg "range_in" s_range_in) (D1 : DefF P w K mg base 7 "read_joined" ["words", "place", "deep"] (spJoined T K)) : DefF P w K mg base 8 "range_in" ["words"] (spRangeIn T K) := by
  refine def_of D sc_range_in bd_range_in (fun vs H Q E ⟨_, _, e, _⟩ => by rw [e]; rfl) ?_
  rintro f cdv A outer s H vs Q E hr ⟨l, R, rfl, hl, cR, sR, lR, tabs, qq⟩
  refine ⟨_, pss_cons (ps_asg (pe_D D1 hr (by rfl) (pa_cons (pv 0) (pa_cons pe_int (pa_cons pe_int pa_nil)))) (pgT K 2 (pgs_cons (pg_name (i := 1) sc_range_in.nd rfl (.inl rfl)) (pgs_cons (pg_name (i := 2) sc_range_in.nd rfl (.inl rfl)) pgs_nil))))
    (pss_cons (ps_if (pt_cmpR op_lt (pv 2) (pe_callB (lenK K) (by rfl) (G.free "len" (by decide +kernel)) rfl (pa_cons (pv 0) pa_nil)) (nomark _)) pss_never pss_nil)
    (pss_one (ps_ret (pv 1)))), ?_⟩
  obtain ⟨p, ps, eW, oks, lps, eI⟩ := phrases cR sR
  refine ⟨.ref l, rfl, l, rngW R, p, ps, rfl, hl, eW, oks, by omega, tabs, fun q r H1 R' g1 hq hr1 c1 e1 => ?_⟩
  have e : R' = R := can_uniq c1 cR fun x => by rw [e1, eI]
  subst e
  refine ⟨q, _, rfl, hq, rfl, _, _, rfl, _, _, rfl, rfl, ?_⟩
  refine ⟨_, rfl, .ref l, rfl, .ref l, (rngW R').length, rfl, .inl ⟨_, g1.sql hl, by rw [List.length_map]⟩, _, _, rfl, rfl, false, congrArg V.bl (decide_eq_false (by omega)), iteF ⟨r, rfl, qq r H1 g1 hr1⟩⟩
def spRead (T : Tbl) (K : PySem.W.Frag) : Sp := fun vs H Q _ => ∃ (R : Rg), vs = [.str (S (rngT R))] ∧ Can 0 R ∧ Small R ∧ R.length ≤ 200 ∧ LamX.Tabs T H ∧ GiveR T K H R Q
theorem word_len {R : Rg} (h : Small R) : ∀ p ∈ rngW R, p.length ≤ 150 := by
  unfold rngW
  split
  · intro p hp
    rw [List.mem_singleton.mp hp]
    decide
  · split
    · intro p hp
      rw [List.mem_singleton.mp hp]
      decide
    · have key : ∀ R : Rg, Small R → ∀ p ∈ orW R, p.length ≤ 150 := by
        intro R
        induction R with
        | nil => intro _ p hp; cases hp
        | cons s r ih =>
          intro h p hp
          have hs := segW_small (h s (List.mem_cons_self ..)).1 (h s (List.mem_cons_self ..)).2
          cases r with
          | nil => exact Nat.le_trans (hs p hp) (by decide)
          | cons t r =>
            have hp : p ∈ segW s ++ cs "or" :: orW (t :: r) := hp
            rcases List.mem_append.mp hp with hp | hp
            · exact Nat.le_trans (hs p hp) (by decide)
            · rcases List.mem_cons.mp hp with rfl | hp
              · decide
              · exact ih (fun u hu => h u (List.mem_cons_of_mem _ hu)) p hp
      exact key R h
theorem ok_read_range (G : Glo K mg) (D : Top K mg "read_range" s_read_range) (D1 : DefF P w K mg base 1 "words_of" ["text"] (spWords T)) (D2 : DefF P w K mg base 8 "range_in" ["words"] (spRangeIn T K)) : DefF P w K mg base 9 "read_range" ["text"] (spRead T K) := by
  refine def_of D sc_read_range bd_read_range (fun vs H Q E ⟨_, e, _⟩ => by rw [e]; rfl) ?_
  rintro f cdv A outer s H vs Q E hr ⟨R, rfl, cR, sR, lR, tabs, qq⟩
  refine ⟨_, pss_cons (ps_if (pt_not (pt_val (pe_callB (isiK K) (by rfl) (G.free "isinstance" (by decide +kernel)) rfl (pa_cons (pv 0) (pa_cons (pe_bltn (v := .ty "str") (by rfl) (G.free "str" (by decide +kernel)) rfl rfl) pa_nil))))) pss_never pss_nil)
    (pss_one (ps_ret (pe_D D2 hr (by rfl) (pa_cons (pe_D D1 (hr.mono (by decide)) (by rfl) (pa_cons (pv 0) pa_nil)) pa_nil)))), ?_⟩
  refine ⟨_, rfl, _, .ty "str", .type "str", .type "str", true, rfl, .ty "str", .base (.str _), kit_ty (by decide +kernel), true, rfl, iteF ?_⟩
  have l1 := rngW_len R
  have l2 := join_len [32] (rngW R) (word_len sR)
  have l3 : (150 + [32].length) * (rngW R).length ≤ 151 * 1201 := Nat.mul_le_mul_left _ (by omega)
  refine ⟨_, rfl, rngW R, rfl, rngW_ne R, rngW_ok R, by omega, by omega, fun q H1 g1 hq => ?_⟩
  exact ⟨q, R, rfl, .of hq, cR, sR, lR, g1.tabs tabs, fun v H2 g2 hv => qq v H2 (g1.trans g2) hv⟩
end
end K3

namespace K3
open PySem PySem.Spec PyProof.Rows L2
/-- the bag of numbers: a list of four, the fourth the list of cells -/
structure IsBag (H : Hp) (B C : Addr) : Prop where
  ex : ∃ (a s i : Int) (ns : List Int), H B = some (.lst [.int a, .int s, .int i, .ref C]) ∧ H C = some (.lst (ns.map V.int)) ∧ ns.length ≤ 63
theorem IsBag.goM {T : Tbl} {M : List Addr} {H H1 : Hp} {B C : Addr} (h : IsBag H B C) (g : Go T M H H1) (hB : B ∉ M) (hC : C ∉ M) : IsBag H1 B C := by
  obtain ⟨a, s, i, ns, h1, h2, h3⟩ := h
  exact ⟨a, s, i, ns, g.lst h1 hB, g.lst h2 hC, h3⟩
theorem IsBag.go {T : Tbl} {H H1 : Hp} {B C : Addr} (h : IsBag H B C) (g : Go T [] H H1) : IsBag H1 B C := h.goM g (by simp) (by simp)
theorem bag_ne {H : Hp} {B C : Addr} {a s i : Int} {ns : List Int} (h1 : H B = some (.lst [.int a, .int s, .int i, .ref C])) (h2 : H C = some (.lst (ns.map V.int))) : C ≠ B := fun e => by
  rw [e, h1] at h2
  have h3 : ([.int a, .int s, .int i, .ref C] : List V) = ns.map V.int := by
    injection h2 with h2
    injection h2
  have h4 : (V.ref C) ∈ ns.map V.int := by rw [← h3]; simp
  obtain ⟨z, _, hz⟩ := List.mem_map.mp h4
  cases hz
section
variable {P : Program} {w : World} {K : PySem.W.Frag} {mg : Str → Option Value} {base : Heap} {T : Tbl}
def spBag (T : Tbl) (K : PySem.W.Frag) : Sp := fun vs H Q _ => ∃ (l : Addr) (ns : List Int), vs = [.ref l] ∧ SqL K H l (ns.map V.int) ∧ ∀ B C H', Go T [] H H' → IsBag H' B C → H B = none → H C = none → Q (.ref B) H'
theorem cutTo {xs : List V} : cutV xs none (some 63) = xs.take 63 := by
  unfold cutV
  have e : HT.sIx xs.length xs.length (some 63) = min 63 xs.length := by simp [HT.sIx]
  rw [e]
  simp only [HT.sIx, List.drop_zero, Nat.sub_zero]
  rcases Nat.le_total 63 xs.length with h | h
  · rw [Nat.min_eq_left h]
  · rw [Nat.min_eq_right h, List.take_of_length_le (Nat.le_refl _), List.take_of_length_le h]
theorem ok_l_bag (G : Glo K mg) (D : Top K mg "_law_bag" s_l_bag) : DefF P w K mg base 1 "_law_bag" ["_law_script"] (spBag T K) := by
  refine def_of D sc_l_bag bd_l_bag (fun vs H Q E ⟨_, _, e, _⟩ => by rw [e]; rfl) ?_
  rintro f cdv A outer s H vs Q E hr ⟨l, ns, rfl, hl, qq⟩
  refine ⟨_, pss_one (ps_ret (pe_lst (pa_cons pe_int (pa_cons pe_int (pa_cons pe_int (pa_cons (pe_lcW (own := [("_law_cell", 1)]) sc_l_bag.nd (blkOk_by (N := n_l_bag) (sc := defScope s_l_bag) (by decide +kernel)) (pi_list (pe_slice (slL K) (pv 0) po_none (po_some pe_int)))
    (fun s' H' C cl fp => pg_name (i := 1) sc_l_bag.nd rfl (.inl rfl)) (fun s' H' C cl fp => pts_nil) (fun s' H' C cl fp => pe_callB call_abs (by rfl) (G.free "abs" (by decide +kernel)) rfl (pa_cons (pv 1) pa_nil))) pa_nil)))))), ?_⟩
  refine ⟨.ref l, rfl, 63, rfl, l, _, rfl, hl, fun a ha => ⟨a, rfl, ⟨_, .of upd_same⟩, ?_⟩⟩
  have g0 := Go.new (T := T) (M := []) (o := .lst (cutV (ns.map V.int) none (some 63))) ha
  have el : (cutV (ns.map V.int) none (some 63)).length ≤ 63 := by rw [cutTo]; simp; omega
  have ei : cutV (ns.map V.int) none (some 63) = (ns.take 63).map V.int := by rw [cutTo, List.map_take]
  rw [ei] at el g0 ⊢
  refine lc_go (T := T) (M := []) (it_lst (xs := (ns.take 63).map V.int)) (fun _ => true) (fun i y _ => ∃ m, (ns.take 63)[i]? = some m ∧ y = .int (if m < 0 then -m else m)) (fun _ _ => True) (by rw [sizeLine_eq]; omega) (fun b m => by cases m)
    (fun q H' hq g => .of (g.lst upd_same (by simp only [List.mem_singleton]; rintro rfl; rw [upd_same] at hq; cases hq))) (fun i y q H' H'' _ _ e => e) (fun i x H' Kc Kn hi g it kc _ => ?_) fun q ys H3 hq g3 hl3 pr => ?_
  · rw [List.getElem?_map] at it
    cases hp : (ns.take 63)[i]? with
    | none => rw [hp] at it; cases it
    | some m =>
      rw [hp] at it
      obtain rfl : V.int m = x := Option.some.inj it
      exact ⟨rfl, lc_yes ⟨_, rfl, m, rfl, kc _ _ rfl Go.refl ⟨m, hp, rfl⟩ fun _ _ _ => trivial⟩⟩
  · rw [keep_all, List.length_map] at pr
    have e := map_of (l := ns.take 63) (f := fun m => .int (if m < 0 then -m else m)) pr
    refine ⟨by show 4 ≤ sizeLine; decide, fun B hB => ?_⟩
    have gB := Go.new (T := T) (M := []) (o := .lst [V.int 0, V.int 1234567891, V.int 0, .ref q]) hB
    refine qq B q _ ((g0.trans g3).trans gB) ⟨0, 1234567891, 0, (ns.take 63).map fun m => if m < 0 then -m else m, upd_same, ?_, ?_⟩ ((g0.trans g3).back B hB) (g0.back q hq)
    · rw [gB.lst hl3, e, List.map_map]
      rfl
    · simp
      omega
def spTake (T : Tbl) : Sp := fun vs H Q _ => ∃ (B C : Addr) (m : Nat), vs = [.ref B, .int ((m : Nat) : Int)] ∧ IsBag H B C ∧ 1 ≤ m ∧ m < 1000000 ∧ ∀ (v : Nat) H', v < m → Go T [B] H H' → IsBag H' B C → Q (.int ((v : Nat) : Int)) H'
theorem mod_nat {x : Int} {m : Nat} (h : 1 ≤ m) : ∃ v : Nat, x % (m : Int) = ((v : Nat) : Int) ∧ v < m := by
  have h1 := Int.emod_nonneg x (b := (m : Int)) (by omega)
  have h2 := Int.emod_lt_of_pos x (b := (m : Int)) (by omega)
  exact ⟨(x % (m : Int)).toNat, by omega, by omega⟩
theorem cut_first (ns : List Int) (lo hi : Option Int) : ∃ c : Int, atI (cutV (ns.map V.int) lo hi ++ [V.int 0]) 0 = some (.int c) := by
  have e : cutV (ns.map V.int) lo hi = ((ns.drop (HT.sIx ns.length 0 lo)).take (HT.sIx ns.length ns.length hi - HT.sIx ns.length 0 lo)).map V.int := by
    unfold cutV
    rw [List.length_map, List.map_take, List.map_drop]
  rw [e]
  cases (ns.drop (HT.sIx ns.length 0 lo)).take (HT.sIx ns.length ns.length hi - HT.sIx ns.length 0 lo) with
  | nil => exact ⟨0, at0⟩
  | cons c r => exact ⟨c, at0⟩
theorem ok_l_take (G : Glo K mg) (D : Top K mg "_law_take" s_l_take) : DefF P w K mg base 1 "_law_take" ["_law_bag_here", "_law_many"] (spTake T) := by
  refine def_of D sc_l_take bd_l_take (fun vs H Q E ⟨_, _, _, e, _⟩ => by rw [e]; rfl) ?_
  rintro f cdv A outer s H vs Q E hr ⟨B, C, m, rfl, hb, m1, m2, qq⟩
  have gi := G.free "int" (by decide +kernel)
  refine ⟨_, Evl.pss_cut (ps_if (pt_cmpR op_eq (peL K (pv 0)) pe_int (nomark _))
      (pss_cons (ps_set (i := 2) sc_l_take.nd rfl (.inl rfl) (peL K (pe_op op_cat (pe_slice (slL K) (peL K (pv 0)) (po_some (peL K (pv 0))) po_none) (pe_lst (pa_cons pe_int pa_nil)))))
      (pss_cons (ps_augS (pv 0) pe_int getL pe_int ip_add set_list)
      (Evl.pss_cut (ps_if (pt_cmpR op_ge (pv 2) (pe_op op_pow pe_int pe_int) (nomark _)) (pss_one (ps_asg (pv 2) (pg_sub (pv 0) pe_int set_list))) pss_nil)
      (pss_cons (ps_set (i := 3) sc_l_take.nd rfl (.inl rfl) (pe_op op_add (pe_op op_add (pe_op op_mul (peL K (pv 0)) pe_int) (pe_op op_mod (pe_callTy call_int1 (by rfl) gi rfl (pa_cons (pv 2) pa_nil)) pe_int)) (pe_op op_mul pe_int (peL K (pv 0)))))
      (pss_one (ps_asg (pe_op op_mod (pe_callTy call_int1 (by rfl) gi rfl (pa_cons (pv 3) pa_nil)) pe_int) (pg_sub (pv 0) pe_int set_list))))))) pss_nil)
    (pss_cons (ps_if (pt_cmpR op_gt (peL K (pv 0)) pe_int (nomark _))
      (pss_cons (ps_set (i := 4) sc_l_take.nd rfl (.inl rfl) (pe_op op_mod (pe_callTy call_int1 (by rfl) gi rfl (pa_cons (peL K (pv 0)) pa_nil)) (pv 1)))
      (pss_cons (ps_asg (pe_op op_fdivN (pe_callTy call_int1 (by rfl) gi rfl (pa_cons (peL K (pv 0)) pa_nil)) (pv 1)) (pg_sub (pv 0) pe_int set_list))
      (pss_one (ps_ret (pv 4))))) pss_nil)
    (pss_cons (ps_set (i := 5) sc_l_take.nd rfl (.inl rfl) (pe_op op_mod (pe_callTy call_int1 (by rfl) gi rfl (pa_cons (pe_op op_mul (pe_op op_add (peL K (pv 0)) pe_int) pe_int) pa_nil)) pe_int))
    (pss_cons (ps_set (i := 6) sc_l_take.nd rfl (.inl rfl) (pe_op op_mod (pe_callTy call_int1 (by rfl) gi rfl (pa_cons (pe_op op_mul (pe_op op_mod (pe_callTy call_int1 (by rfl) gi rfl (pa_cons (pe_op op_mul (pv 5) (pv 5)) pa_nil)) pe_int) pe_int) pa_nil)) pe_int))
    (pss_one (ps_ret (pe_op op_mod (pe_callTy call_int1 (by rfl) gi rfl (pa_cons (pe_op op_fdivN (pv 6) pe_int) pa_nil)) (pv 1))))))), ?_⟩
  obtain ⟨a, sd, ix, ns, hB, hC, ln⟩ := hb
  have hCB := bag_ne hB hC
  refine ⟨fun σ' H' => (∃ y z, σ' = [some (.ref B), some (.int (m : Int)), y, z, none, none, none]) ∧ Go T [B] H H' ∧ H' C = some (.lst (ns.map V.int)) ∧ ∃ a sd ix : Int, H' B = some (.lst [.int a, .int sd, .int ix, .ref C]), ?_, ?_⟩
  · refine ⟨.ref B, rfl, B, _, 0, .int a, rfl, rfl, .of hB, rfl, rfl, decide (V.int a = V.int 0), rfl, ?_⟩
    by_cases ha : V.int a = V.int 0
    · rw [decide_eq_true ha]
      obtain ⟨c, hc⟩ := cut_first ns (some ix) none
      have hl : (cutV (ns.map V.int) (some ix) none).length ≤ 63 := Nat.le_trans (cutV_length _ _ _) (by rw [List.length_map]; exact ln)
      refine iteT ⟨.ref B, rfl, B, _, 3, .ref C, rfl, rfl, .of hB, rfl, .ref B, rfl, B, _, 2, .int ix, rfl, rfl, .of hB, rfl, ix, rfl, C, _, rfl, .of hC, fun p hp => ⟨by show 1 ≤ sizeLine; decide, fun q hq => ?_⟩⟩
      have k1 := Go.new (T := T) (M := []) (o := .lst (cutV (ns.map V.int) (some ix) none)) hp
      have k2 := Go.new (T := T) (M := []) (o := .lst [V.int 0]) hq
      refine ⟨p, q, _, _, rfl, rfl, k2.lst upd_same, upd_same, by rw [sizeLine_eq, List.length_singleton]; omega, fun r hr => ?_⟩
      have k3 := Go.new (T := T) (M := []) (o := .lst (cutV (ns.map V.int) (some ix) none ++ [V.int 0])) hr
      have k123 := (k1.trans k2).trans k3
      have g123 : Go T [B] H _ := k123.any
      have hB3 := k123.lst hB
      have hC3 := k123.lst hC
      refine ⟨r, _, 0, .int c, rfl, rfl, .of upd_same, hc, ?_⟩
      refine ⟨.ref B, rfl, B, _, 2, .int ix, rfl, rfl, by omega, .of hB3, rfl, ix, 1, rfl, rfl, B, _, 2, 2, rfl, rfl, hB3, rfl, ?_⟩
      have gw : ∀ {H1 : Hp} {xs ys : List V}, H1 B = some (.lst xs) → Go T [B] H1 (upd H1 B (.lst ys)) := fun h => Go.wr (by simp) h
      have g4 := g123.trans (gw (ys := [.int a, .int sd, .int (ix + 1), .ref C]) hB3)
      refine ⟨fun σ' H' => σ' = [some (.ref B), some (.int (m : Int)), some (.int c), none, none, none, none] ∧ Go T [B] H H' ∧ H' C = some (.lst (ns.map V.int)) ∧ ∃ a sd ix : Int, H' B = some (.lst [.int a, .int sd, .int ix, .ref C]), ?_, ?_⟩
      · refine ⟨.int c, rfl, 10, 18, rfl, rfl, ⟨by omega, by omega, by decide⟩, c, _, rfl, rfl, _, rfl, dec_case _ _ (fun _ => ?_) fun _ => ?_⟩
        · refine ⟨.int c, rfl, .ref B, rfl, B, _, 0, 0, rfl, rfl, upd_same, rfl, rfl, g4.trans (gw upd_same), ?_, c, sd, ix + 1, upd_same⟩
          rw [upd_ne hCB, upd_ne hCB]
          exact hC3
        · refine ⟨rfl, g4, ?_, a, sd, ix + 1, upd_same⟩
          rw [upd_ne hCB]
          exact hC3
      · rintro σ' H5 ⟨rfl, g5, hC5, a5, s5, i5, hB5⟩
        refine ⟨.ref B, rfl, B, _, 1, .int s5, rfl, rfl, .of hB5, rfl, s5, 48271, rfl, rfl, .inr (by omega), .int c, rfl, .inl ⟨c, rfl, c, 2147483647, rfl, rfl, by omega, _, _, rfl, rfl, .ref B, rfl, B, _, 2, .int i5, rfl, rfl, .of hB5, rfl, 7919, i5, rfl, rfl, .inl (by omega), _, _, rfl, rfl, ?_⟩⟩
        refine ⟨_, rfl, .inl ⟨_, rfl, _, 2147483647, rfl, rfl, by omega, .ref B, rfl, B, _, 1, 1, rfl, rfl, hB5, rfl, ⟨_, _, rfl⟩, g5.trans (gw hB5), ?_, _, _, _, upd_same⟩⟩
        rw [upd_ne hCB]
        exact hC5
    · rw [decide_eq_false ha]
      exact iteF ⟨⟨_, _, rfl⟩, Go.refl, hC, a, sd, ix, hB⟩
  · rintro σ' H1 ⟨⟨y, z, rfl⟩, g1, hC1, a1, s1, i1, hB1⟩
    have gw : ∀ {H1 : Hp} {xs ys : List V}, H1 B = some (.lst xs) → Go T [B] H1 (upd H1 B (.lst ys)) := fun h => Go.wr (by simp) h
    refine ⟨.ref B, rfl, B, _, 0, .int a1, rfl, rfl, .of hB1, rfl, a1, 0, rfl, rfl, _, rfl, dec_case _ _ (fun _ => ?_) fun _ => ?_⟩
    · obtain ⟨v, ev, hv⟩ := mod_nat (x := a1) m1
      refine ⟨.ref B, rfl, B, _, 0, .int a1, rfl, rfl, .of hB1, rfl, .inl ⟨a1, rfl, .int (m : Int), rfl, a1, (m : Int), rfl, rfl, by omega, ?_⟩⟩
      refine ⟨.ref B, rfl, B, _, 0, .int a1, rfl, rfl, .of hB1, rfl, .inl ⟨a1, rfl, .int (m : Int), rfl, a1, (m : Int), rfl, rfl, ⟨by omega, by omega⟩, .ref B, rfl, B, _, 0, 0, rfl, rfl, hB1, rfl, _, rfl, ?_⟩⟩
      show Q (.int (a1 % (m : Int))) _
      rw [ev]
      refine qq v _ hv (g1.trans (gw hB1)) ⟨_, s1, i1, ns, upd_same, ?_, ln⟩
      rw [upd_ne hCB]
      exact hC1
    · refine ⟨.ref B, rfl, B, _, 1, .int s1, rfl, rfl, .of hB1, rfl, s1, 1, rfl, rfl, _, 39373, rfl, rfl, .inr (by omega), .inl ⟨_, rfl, _, 1000000007, rfl, rfl, by omega, ?_⟩⟩
      generalize hbg : (s1 + 1) * 39373 % 1000000007 = bg
      have b1 := Int.emod_nonneg ((s1 + 1) * 39373) (b := 1000000007) (by omega)
      have b2 := Int.emod_lt_of_pos ((s1 + 1) * 39373) (b := 1000000007) (by omega)
      refine ⟨_, rfl, _, rfl, bg, bg, congrArg V.int hbg, congrArg V.int hbg, .inl (by omega), .inl ⟨_, rfl, _, 998244353, rfl, rfl, by omega, _, 30011, rfl, rfl, .inr (by omega), .inl ⟨_, rfl, _, 998244353, rfl, rfl, by omega, ?_⟩⟩⟩
      refine ⟨_, rfl, _, 7, rfl, rfl, ⟨by omega, by decide⟩, .inl ⟨_, rfl, .int (m : Int), rfl, _, (m : Int), rfl, rfl, by omega, ?_⟩⟩
      obtain ⟨v, ev, hv⟩ := mod_nat (x := ((bg * bg % 998244353 * 30011 % 998244353).fdiv 7)) m1
      show Q (.int ((bg * bg % 998244353 * 30011 % 998244353).fdiv 7 % (m : Int))) _
      rw [ev]
      exact qq v _ hv g1 ⟨a1, s1, i1, ns, hB1, hC1, ln⟩
end
end K3

namespace K3
open PySem PySem.Spec PyProof.Rows L2
theorem code_ver (n : Nat) : TS.code 1000000 (vI n) = (n : Int) := by
  have h := ver_parts n
  show VA n * 1000000 ^ 2 + (VB n * 1000000 ^ 1 + (VC n * 1000000 ^ 0 + 0)) = (n : Int)
  simp only [VA, VB, VC]
  omega
theorem vI_inj {n m : Nat} (h : vI n = vI m) : n = m := by
  have h1 := code_ver n
  rw [h, code_ver m] at h1
  omega
/-- a list of versions, all tracked tuples -/
abbrev Vers (H : Hp) : List V → List Nat → Prop := Paired (IsV (Th H))
theorem Vers.go {T : Tbl} {M : List Addr} {H H1 : Hp} {us : List V} {ns : List Nat} (h : Vers H us ns) (g : Go T M H H1) : Vers H1 us ns := Paired.mapP h fun _ _ x => x.goH g
theorem Vers.app {H : Hp} : ∀ {us vs : List V} {ns ms : List Nat}, Vers H us ns → Vers H vs ms → Vers H (us ++ vs) (ns ++ ms)
  | _, _, _, _, .nil, h => h
  | _, _, _, _, .cons a r, h => .cons a (Vers.app r h)
theorem addrs_of {H : Hp} : ∀ {us : List V} {ns : List Nat}, Vers H us ns → ∃ ks : List (Addr × Nat), us = ks.map (fun p => V.ref p.1) ∧ ns = ks.map (·.2) ∧ ∀ p ∈ ks, H p.1 = some (.tup ((vI p.2).map V.int)) ∧ p.2 < MX
  | _, _, .nil => ⟨[], rfl, rfl, fun p h => by cases h⟩
  | _, _, .cons a r => by
    obtain ⟨ks, e1, e2, h⟩ := addrs_of r
    obtain ⟨p, rfl, t, l⟩ := a
    exact ⟨(p, _) :: ks, by rw [e1]; rfl, by rw [e2]; rfl, fun q hq => by
      rcases List.mem_cons.mp hq with rfl | hq
      · exact ⟨t, l⟩
      · exact h q hq⟩
theorem vers_of {H : Hp} : ∀ {ks : List (Addr × Nat)}, (∀ p ∈ ks, H p.1 = some (.tup ((vI p.2).map V.int)) ∧ p.2 < MX) → Vers H (ks.map fun p => V.ref p.1) (ks.map (·.2))
  | [], _ => .nil
  | p :: ks, h => .cons ⟨p.1, rfl, (h p (by simp)).1, (h p (by simp)).2⟩ (vers_of fun q hq => h q (List.mem_cons_of_mem _ hq))
theorem bd_ver {n : Nat} (h : n < MX) : TS.Bd 1000000 (vI n) := fun m hm => by
  unfold MX at h
  simp only [List.mem_cons, List.not_mem_nil, or_false, VA, VB, VC] at hm
  rcases hm with rfl | rfl | rfl <;> omega
theorem set_sorted {T : Tbl} {K : PySem.W.Frag} {P : Program} {w : World} {H : Hp} {l : Addr} {us : List V} {ns : List Nat} {Q : VK} (hl : SqL K H l us) (pv : Vers H us ns) (hn : us.length < 64)
    (h : ∀ p H' us' ns', Go T [] H H' → H p = none → H' p = some (.lst us') → Vers H' us' ns' → Asc ns' → (∀ n, n ∈ ns' ↔ n ∈ ns) → Q (.ref p) H') : rSetOfT K P w [.ref l] H fun x H1 => rSortedT K P w [x] H1 Q := by
  obtain ⟨ks, rfl, rfl, hk⟩ := addrs_of pv
  refine ⟨l, ks.map fun p => (p.1, vI p.2), rfl, ?_, ?_, by rw [List.length_map] at hn ⊢; exact hn, fun a L ha h1 h2 => ?_⟩
  · rw [List.map_map]
    exact hl
  · intro p hp
    obtain ⟨q, hq, rfl⟩ := List.mem_map.mp hp
    exact .of (hk q hq).1
  have g1 := Go.new (T := T) (M := []) (o := SetTO P w a L) ha
  have hL : ∀ q ∈ L, ∃ n, n < MX ∧ q.2 = vI n ∧ H q.1 = some (.tup ((vI n).map V.int)) ∧ n ∈ ks.map (·.2) := fun q hq => by
    obtain ⟨z, hz, rfl⟩ := List.mem_map.mp (h1 q hq)
    exact ⟨z.2, (hk z hz).2, rfl, (hk z hz).1, List.mem_map.mpr ⟨z, hz, rfl⟩⟩
  refine ⟨a, L, 3, 1000000, rfl, upd_same, fun q hq => ?_, by omega, fun q hq => ?_, fun L' p pm nd hlen pw np => ?_⟩
  · obtain ⟨n, _, e, t, _⟩ := hL q hq
    rw [e]
    exact .of (g1.tup _ _ t)
  · obtain ⟨n, hn, e, _, _⟩ := hL q hq
    rw [e]
    exact ⟨rfl, bd_ver hn⟩
  have g2 := Go.new (T := T) (M := []) (o := .lst (L'.map fun q => V.ref q.1)) np
  have gg := g1.trans g2
  let nn : Addr × List Int → Nat := fun q => (TS.code 1000000 q.2).toNat
  have hq : ∀ q ∈ L', ∃ n, n < MX ∧ q.2 = vI n ∧ H q.1 = some (.tup ((vI n).map V.int)) ∧ n ∈ ks.map (·.2) ∧ nn q = n := fun q hq => by
    obtain ⟨n, hn, e, t, m⟩ := hL q (pm.mem_iff.mp hq)
    refine ⟨n, hn, e, t, m, ?_⟩
    show (TS.code 1000000 q.2).toNat = n
    rw [e, code_ver]
    omega
  have v1 : Vers (upd (upd H a (SetTO P w a L)) p (.lst (L'.map fun q => V.ref q.1))) ((L'.map fun q => (q.1, nn q)).map fun p => V.ref p.1) ((L'.map fun q => (q.1, nn q)).map (·.2)) := vers_of fun z hz => by
    obtain ⟨q, hq1, rfl⟩ := List.mem_map.mp hz
    obtain ⟨n, hn, e, t, m, en⟩ := hq q hq1
    show _ = some (HO.tup ((vI (nn q)).map V.int)) ∧ nn q < MX
    rw [en]
    exact ⟨gg.tup _ _ t, hn⟩
  rw [List.map_map, List.map_map] at v1
  refine h p _ _ _ gg (g1.back p np) upd_same v1 ?_ fun n => ?_
  · refine List.pairwise_map.mpr ?_
    have nd' : L'.Pairwise fun q r => q.2 ≠ r.2 := List.pairwise_map.mp nd
    refine (List.Pairwise.and pw nd').imp_of_mem fun {q r} m1 m2 hqr => ?_
    obtain ⟨n1, _, e1, _, _, f1⟩ := hq q m1
    obtain ⟨n2, _, e2, _, _, f2⟩ := hq r m2
    show nn q < nn r
    obtain ⟨h1, h2⟩ := hqr
    rw [e1, e2, code_ver, code_ver] at h1
    have h3 : n1 ≠ n2 := fun z => h2 (by rw [e1, e2, z])
    omega
  · constructor
    · intro hm
      obtain ⟨q, hq1, e⟩ := List.mem_map.mp hm
      obtain ⟨n1, _, e1, _, m1, f1⟩ := hq q hq1
      have : n1 = n := f1.symm.trans e
      rw [← this]
      exact m1
    · intro hm
      obtain ⟨z, hz, rfl⟩ := List.mem_map.mp hm
      have h3 := h2 (z.1, vI z.2) (List.mem_map.mpr ⟨z, hz, rfl⟩)
      obtain ⟨q, hq1, e⟩ := List.mem_map.mp h3
      have hq2 := pm.mem_iff.mpr hq1
      obtain ⟨n1, _, e1, _, m1, f1⟩ := hq q hq2
      refine List.mem_map.mpr ⟨q, hq2, ?_⟩
      show nn q = z.2
      have : vI n1 = vI z.2 := e1.symm.trans e
      rw [f1, vI_inj this]
section
variable {P : Program} {w : World} {K : PySem.W.Frag} {mg : Str → Option Value} {base : Heap} {T : Tbl}
def spOne (T : Tbl) : Sp := fun vs H Q _ => ∃ (B C l : Addr) (xs : List V), vs = [.ref B, .ref l] ∧ IsBag H B C ∧ H l = some (.lst xs) ∧ l ≠ B ∧ 1 ≤ xs.length ∧ xs.length ≤ 1000 ∧ ∀ (i : Nat) x H', xs[i]? = some x → Go T [B] H H' → IsBag H' B C → Q x H'
theorem ok_l_one (G : Glo K mg) (D : Top K mg "_law_one" s_l_one) (D1 : DefF P w K mg base 1 "_law_take" ["_law_bag_here", "_law_many"] (spTake T)) : DefF P w K mg base 2 "_law_one" ["_law_bag_here", "_law_things"] (spOne T) := by
  refine def_of D sc_l_one bd_l_one (fun vs H Q E ⟨_, _, _, _, e, _⟩ => by rw [e]; rfl) ?_
  rintro f cdv A outer s H vs Q E hr ⟨B, C, l, xs, rfl, hb, hl, hlB, m1, m2, qq⟩
  refine ⟨_, pss_one (ps_ret (peIx (ixL K) (pv 1) (pe_D D1 hr (by rfl) (pa_cons (pv 0) (pa_cons (pe_callB (lenK K) (by rfl) (G.free "len" (by decide +kernel)) rfl (pa_cons (pv 1) pa_nil)) pa_nil))))), ?_⟩
  refine ⟨.ref l, rfl, .ref B, rfl, .ref l, rfl, .ref l, xs.length, rfl, .inl ⟨xs, .of hl, rfl⟩, B, C, xs.length, rfl, hb, m1, by omega, fun v H1 hv g1 hb1 => ?_⟩
  have h1 := g1.lst hl (by simpa using hlB)
  have hx : xs[v]? = some xs[v] := List.getElem?_eq_getElem hv
  exact ⟨l, xs, _, xs[v], rfl, rfl, .of h1, atN hx, qq v _ H1 hx g1 hb1⟩
end
end K3

namespace K3
open PySem PySem.Spec PyProof.Rows L2
theorem nodup_len : ∀ {l m : List Nat}, Asc l → (∀ n, n ∈ l → n ∈ m) → l.length ≤ m.length
  | [], _, _, _ => Nat.zero_le _
  | x :: l, m, h, s => by
    obtain ⟨h1, h2⟩ := List.pairwise_cons.mp h
    have hx := s x (List.mem_cons_self ..)
    have ih := nodup_len (l := l) (m := m.erase x) h2 fun n hn => by
      have hne : n ≠ x := fun e => by
        have := h1 n hn
        omega
      exact (List.mem_erase_of_ne hne).mpr (s n (List.mem_cons_of_mem _ hn))
    have hl := List.length_erase_of_mem hx
    have hp : 0 < m.length := List.length_pos_of_mem hx
    rw [List.length_cons]
    omega
theorem ver_mk {a b c : Nat} (ha : a < 1000000) (hb : b < 1000000) (hc : c < 1000000) : ∃ n, n < MX ∧ vI n = [(a : Int), (b : Int), (c : Int)] := by
  refine ⟨a * 1000000000000 + b * 1000000 + c, by unfold MX; omega, ?_⟩
  simp only [VA, VB, VC, List.cons.injEq, and_true]
  omega
section
variable {P : Program} {w : World} {K : PySem.W.Frag} {mg : Str → Option Value} {base : Heap} {T : Tbl}
abbrev GiveV (T : Tbl) (B C : Addr) (k : Nat) (H : Hp) (Q : VK) : Prop := ∀ p us ns H', Go T [B] H H' → IsBag H' B C → H p = none → H' p = some (.lst us) → Vers H' us ns → us.length ≤ k → Q (.ref p) H'
def spVersions (T : Tbl) : Sp := fun vs H Q _ => ∃ (B C : Addr) (m : Nat), vs = [.ref B, .int ((m : Nat) : Int)] ∧ IsBag H B C ∧ m ≤ 5 ∧ GiveV T B C 5 H Q
theorem Go.goB {T : Tbl} {B : Addr} {H H1 : Hp} (g : Go T [] H H1) : Go T [B] H H1 := g.any
theorem bag_some {H : Hp} {B C : Addr} (h : IsBag H B C) : H B ≠ none ∧ H C ≠ none := by
  obtain ⟨_, _, _, _, h1, h2, _⟩ := h.ex
  refine ⟨fun e => ?_, fun e => ?_⟩
  · rw [e] at h1
    cases h1
  · rw [e] at h2
    cases h2
theorem bag_apart {H : Hp} {B C p : Addr} (h : IsBag H B C) (n : H p = none) : p ≠ B ∧ p ≠ C := ⟨fun e => (bag_some h).1 (by rw [← e]; exact n), fun e => (bag_some h).2 (by rw [← e]; exact n)⟩
/-- one of some numbers that were just written -/
theorem one_of {H : Hp} {B C : Addr} {xs : List V} {Q : VK} (hb : IsBag H B C) (h1 : 1 ≤ xs.length) (h2 : xs.length ≤ 1000) (q : ∀ (i : Nat) x H', xs[i]? = some x → Go T [B] H H' → IsBag H' B C → Q x H') :
    xs.length ≤ sizeLine ∧ ∀ p, H p = none → spOne T ([.ref B, .ref p] ++ []) (upd H p (.lst xs)) Q E0 := by
  refine ⟨by rw [sizeLine_eq]; omega, fun p hp => ?_⟩
  have g := Go.new (T := T) (M := []) (o := .lst xs) hp
  exact ⟨B, C, p, xs, rfl, hb.go g, upd_same, (bag_apart hb hp).1, h1, h2, fun i x H' e g1 b1 => q i x H' e (g.goB.trans g1) b1⟩
theorem ok_l_versions (G : Glo K mg) (D : Top K mg "_law_versions" s_l_versions) (D1 : DefF P w K mg base 1 "_law_take" ["_law_bag_here", "_law_many"] (spTake T)) (D2 : DefF P w K mg base 2 "_law_one" ["_law_bag_here", "_law_things"] (spOne T)) : DefF P w K mg base 3 "_law_versions" ["_law_bag_here", "_law_many"] (spVersions T) := by
  refine def_of D sc_l_versions bd_l_versions (fun vs H Q E ⟨_, _, _, e, _⟩ => by rw [e]; rfl) ?_
  rintro f cdv A outer s H vs Q E hr ⟨B, C, m, rfl, hb, hm, qq⟩
  refine ⟨_, pss_cons (ps_set (i := 2) sc_l_versions.nd rfl (.inl rfl) (pe_lst pa_nil))
    (pss_cons (ps_forW PassesOwn.never (pi_range1 (by rfl) (G.free "range" (by decide +kernel)) (pa_cons (pv 1) pa_nil)) (pg_name (i := 3) sc_l_versions.nd rfl (.inl rfl))
      (pss_one (ps_expr (pe_bm PySem.F.plainAttrs_list PySem.F.slot_list_append PySem.F.type_list_append mt_append (pv 2) (pa_cons (pe_tup
        (pa_cons (pe_D D2 hr (by rfl) (pa_cons (pv 0) (pa_cons (pe_lst (pa_cons pe_int (pa_cons pe_int (pa_cons pe_int (pa_cons pe_int (pa_cons pe_int pa_nil)))))) pa_nil)))
        (pa_cons (pe_D D1 (hr.mono (by decide)) (by rfl) (pa_cons (pv 0) (pa_cons pe_int pa_nil))) (pa_cons (pe_D D1 (hr.mono (by decide)) (by rfl) (pa_cons (pv 0) (pa_cons pe_int pa_nil))) pa_nil)))) pa_nil)))))
    (pss_one (ps_ret (pe_callB (cr_sortedT rfl) (by rfl) (G.free "sorted" (by decide +kernel)) rfl (pa_cons (pe_callTy (cr_setOfT rfl hr.units) (by rfl) (G.free "set" (by decide +kernel)) rfl (pa_cons (pv 2) pa_nil)) pa_nil))))), ?_⟩
  refine ⟨by decide, fun q hq => ⟨_, rfl, (m : Int), rfl, by omega, by omega, ?_⟩⟩
  have g0 := Go.new (T := T) (M := []) (o := .lst []) hq
  refine for_go (T := T) it_rng (fun i σ H' => Go T [B] H H' ∧ IsBag H' B C ∧ (∃ y, σ = [some (.ref B), some (.int (m : Int)), some (.ref q), y]) ∧ ∃ us ns, H' q = some (.lst us) ∧ Vers H' us ns ∧ us.length = i)
    ⟨g0.goB, hb.go g0, ⟨_, rfl⟩, [], [], upd_same, .nil, rfl⟩ (fun _ _ _ _ _ => trivial) ?_ ?_
  · rintro i x σ H1 H2 hi ⟨g1, b1, ⟨y, rfl⟩, us, ns, hl, hv, hn⟩ g2 it
    have g12 := g1.trans g2.goB
    obtain ⟨hqB, hqC⟩ := bag_apart hb hq
    have hl2 := g2.lst hl
    have b2 := b1.go g2
    refine ⟨.ref q, rfl, tyL hl2, .ref B, rfl, one_of b2 (by decide) (by decide) fun j v H3 hj g3 b3 => ?_⟩
    obtain ⟨c, rfl, hc⟩ : ∃ c : Nat, v = .int ((c : Nat) : Int) ∧ c < 1000000 := by
      match j, hj with
      | 0, hj => exact ⟨1, (Option.some.inj hj).symm, by decide⟩
      | 1, hj => exact ⟨2, (Option.some.inj hj).symm, by decide⟩
      | 2, hj => exact ⟨1, (Option.some.inj hj).symm, by decide⟩
      | 3, hj => exact ⟨0, (Option.some.inj hj).symm, by decide⟩
      | 4, hj => exact ⟨3, (Option.some.inj hj).symm, by decide⟩
    refine ⟨.ref B, rfl, B, C, 3, rfl, b3, by omega, by omega, fun v2 H4 hv2 g4 b4 => ?_⟩
    refine ⟨.ref B, rfl, B, C, 2, rfl, b4, by omega, by omega, fun v3 H5 hv3 g5 b5 => ?_⟩
    obtain ⟨n, hnx, en⟩ := ver_mk (a := c) (b := v2) (c := v3) hc (by omega) (by omega)
    have g345 := (g3.trans g4).trans g5
    refine ⟨by show 3 ≤ sizeLine; decide, fun d hd => ?_⟩
    have g6 := Go.new (T := T) (M := []) (o := .tup [V.int (c : Int), V.int (v2 : Int), V.int (v3 : Int)]) hd
    have h6 := g6.lst (g345.lst hl2 (by simpa using hqB))
    have gw : Go T [q] (upd H5 d (.tup [V.int (c : Int), V.int (v2 : Int), V.int (v3 : Int)])) (upd (upd H5 d (.tup [V.int (c : Int), V.int (v2 : Int), V.int (v3 : Int)])) q (.lst (us ++ [.ref d]))) := Go.wr (by simp) h6
    have iv : IsV (Th (upd H5 d (.tup [V.int (c : Int), V.int (v2 : Int), V.int (v3 : Int)]))) (.ref d) n := ⟨d, rfl, by show upd _ _ _ _ = _; rw [upd_same, en]; rfl, hnx⟩
    have hi5 : (i : Int) < 5 := by have := hi; omega
    refine ⟨q, us, .ref d, rfl, rfl, h6, by rw [sizeLine_eq]; omega, ((g12.trans g345).trans g6.goB).mut hq h6, (b5.go g6).goM gw (by simpa using hqB.symm) (by simpa using hqC.symm), ⟨_, rfl⟩, us ++ [.ref d], ns ++ [n], upd_same, ?_, by rw [List.length_append, hn]; rfl⟩
    exact Vers.app ((((hv.go g2).go g345).go g6).go gw) (.cons (iv.goH gw) .nil)
  · rintro σ H1 ⟨g1, b1, ⟨y, rfl⟩, us, ns, hl, hv, hn⟩
    refine ⟨.ref q, rfl, set_sorted (T := T) (.of hl) hv (by rw [hn]; omega) fun p H2 us' ns' g2 np hp hv2 as mem => ?_⟩
    refine qq p us' ns' H2 (g1.trans g2.goB) (b1.go g2) (g1.back p np) hp hv2 ?_
    have := nodup_len as fun n h => (mem n).mp h
    have l1 := Paired.lenEq hv2
    have l2 := Paired.lenEq hv
    have : (m : Int).toNat = m := by omega
    omega
end
end K3

/-! comprehensions that draw from the bag -/
namespace K3
open PySem PySem.Spec PyProof.Rows L2
section
variable {T : Tbl} {J : It} {n : Nat} {Cd : Hp → Prop} {item : Nat → V → Hp → Prop} {σ : L2.St} {H1 : Hp} {B C : Addr}
/-- as lc_go; the bag changes at every turn -/
theorem lc_bag {g : TG} {tt : TT} {te : TE} {vs : List Nat} {Q : VK} (IT : Items T J n Cd item) (R : Nat → V → Hp → Prop) (hn : n < sizeLine) (hb : IsBag H1 B C)
    (hC : ∀ q H', H1 q = none → Go T [q, B] H1 H' → Cd H') (hR : ∀ i y q H' H'', Go T [q, B] H' H'' → R i y H' → R i y H'')
    (hs : ∀ i x H' (Kc : VK) (Kn : Hp → Prop), i < n → Go T [B] H1 H' → IsBag H' B C → item i x H' → (∀ y H4, Go T [B] H' H4 → IsBag H4 B C → R i y H4 → Kc y H4) →
      g x (wipe σ vs) H' fun σ2 H2 => wipe σ2 vs = wipe σ vs ∧ tt σ2 H2 fun b H3 => if b = true then te σ2 H3 Kc else Kn H3)
    (hd : ∀ q ys H', H1 q = none → Go T [B] H1 H' → IsBag H' B C → H' q = some (.lst ys) → Paired (fun i y => R i y H') (List.range n) ys → Q (.ref q) H') : LcW J g tt te vs Q σ H1 := by
  intro D hD
  obtain ⟨hDB, hDC⟩ := bag_apart hb hD
  have cons : ∀ {H' H'' : Hp}, Go T [B] H' H'' → Go T [D, B] H' H'' := fun g => g.mono fun b m => List.mem_cons_of_mem _ m
  let Pv : Nat → Hp → Prop := fun i H => Go T [B] H1 H ∧ IsBag H B C ∧ ∃ acc, H D = some (.lst acc) ∧ Paired (fun i y => R i y H) (List.range i) acc
  have g00 := Go.new (T := T) (M := []) (o := .lst []) hD
  have h0 : Pv 0 (upd H1 D (.lst [])) := ⟨g00.any, hb.go g00, [], upd_same, .nil⟩
  refine ⟨fun i m H => m = n - i ∧ i ≤ n ∧ Pv i H, ⟨n, by simp, Nat.zero_le _, h0⟩, ?_⟩
  rintro i m H ⟨rfl, hi, g1, b1, acc, hacc, pr⟩
  have c := hC D H hD (cons g1)
  by_cases hlt : i < n
  · refine .inr ⟨IT.go i H c hlt, Pv (i + 1), fun H' p' => ⟨n - (i + 1), by omega, rfl, hlt, p'⟩, fun x H' y => ?_⟩
    obtain ⟨g2, it⟩ := IT.yld i x H H' c hlt y
    have hD2 := g2.lst hacc
    refine hs i x H' _ _ hlt (g1.trans g2.any) (b1.go g2) it (fun y_ H4 g3 b3 r => ?_)
    · have e4 : H4 D = some (.lst acc) := g3.lst hD2 (by simpa using hDB)
      have gw : Go T [D] H4 (upd H4 D (.lst (acc ++ [y_]))) := Go.wr (by simp) e4
      have gw2 : Go T [D, B] H4 (upd H4 D (.lst (acc ++ [y_]))) := gw.mono fun b m => by rw [List.mem_singleton.mp m]; simp
      refine ⟨acc, e4, ?_, ((g1.trans g2.any).trans g3).mut hD e4, b3.goM gw (by simpa using hDB.symm) (by simpa using hDC.symm), acc ++ [y_], upd_same, ?_⟩
      · rw [Paired.lenEq pr, List.length_range]
        exact Nat.lt_trans hlt hn
      · rw [List.range_succ]
        exact Paired.snoc (R := fun i y => R i y (upd H4 D (.lst (acc ++ [y_])))) (hR i y_ D _ _ gw2 r) (Paired.mapP (G := fun i y => R i y (upd H4 D (.lst (acc ++ [y_])))) pr fun j y' r' => hR j y' D _ _ ((g2.any.trans (cons g3)).trans gw2) r')
  · have e : i = n := by omega
    subst e
    exact .inl ⟨IT.stop _ H c (Nat.le_refl _), hd D acc H hD g1 b1 hacc pr⟩
end
end K3

namespace K3
open PySem PySem.Spec PyProof.Rows L2
theorem vers_ex {H : Hp} {α : Type} : ∀ {l : List α} {ys : List V}, Paired (fun _ y => ∃ m, IsV (Th H) y m) l ys → ∃ ms, Vers H ys ms
  | _, _, .nil => ⟨[], .nil⟩
  | _, _, .cons ⟨m, a⟩ r => by
    obtain ⟨ms, h⟩ := vers_ex r
    exact ⟨m :: ms, .cons a h⟩
theorem cut6 {xs : List V} : cutV xs none (some 6) = xs.take 6 := by
  unfold cutV
  have e : HT.sIx xs.length xs.length (some 6) = min 6 xs.length := by simp [HT.sIx]
  rw [e]
  simp only [HT.sIx, List.drop_zero, Nat.sub_zero]
  rcases Nat.le_total 6 xs.length with h | h
  · rw [Nat.min_eq_left h]
  · rw [Nat.min_eq_right h, List.take_of_length_le (Nat.le_refl _), List.take_of_length_le h]
theorem paired_take {α β : Type} {R : α → β → Prop} : ∀ {l : List α} {m : List β} (k : Nat), Paired R l m → Paired R (l.take k) (m.take k)
  | _, _, 0, _ => .nil
  | _, _, _ + 1, .nil => .nil
  | _, _, k + 1, .cons a r => .cons a (paired_take k r)
/-- a list of small numbers stands at q -/
def Nums (H : Hp) (B q : Addr) : Prop := q ≠ B ∧ ∃ ns : List Int, H q = some (.lst (ns.map V.int)) ∧ 1 ≤ ns.length ∧ ns.length ≤ 10 ∧ ∀ n ∈ ns, 0 ≤ n ∧ n < 1000000
theorem Nums.go {T : Tbl} {H H1 : Hp} {B q : Addr} (h : Nums H B q) (g : Go T [B] H H1) : Nums H1 B q := by
  obtain ⟨h1, ns, h2, h3⟩ := h
  exact ⟨h1, ns, g.lst h2 (by simpa using h1), h3⟩
theorem nums_new {H : Hp} {B C q : Addr} {ns : List Int} (hb : IsBag H B C) (hq : H q = none) (h : (decide (1 ≤ ns.length) && (decide (ns.length ≤ 10) && ns.all fun n => decide (0 ≤ n) && decide (n < 1000000))) = true) : Nums (upd H q (.lst (ns.map V.int))) B q := by
  simp only [Bool.and_eq_true, decide_eq_true_eq, List.all_eq_true] at h
  exact ⟨(bag_apart hb hq).1, ns, upd_same, h.1, h.2.1, h.2.2⟩
section
variable {P : Program} {w : World} {K : PySem.W.Frag} {mg : Str → Option Value} {base : Heap} {T : Tbl}
def spVersion (T : Tbl) : Sp := fun vs H Q _ => ∃ (B C : Addr), vs = [.ref B] ∧ IsBag H B C ∧ ∀ v n H', Go T [B] H H' → IsBag H' B C → IsV (Th H') v n → Q v H'
theorem ok_l_version (G : Glo K mg) (D : Top K mg "_law_version" s_l_version) (D2 : DefF P w K mg base 2 "_law_one" ["_law_bag_here", "_law_things"] (spOne T)) : DefF P w K mg base 3 "_law_version" ["_law_bag_here"] (spVersion T) := by
  refine def_of D sc_l_version bd_l_version (fun vs H Q E ⟨_, _, e, _⟩ => by rw [e]; rfl) ?_
  rintro f cdv A outer s H vs Q E hr ⟨B, C, rfl, hb, qq⟩
  refine ⟨_, pss_cons (ps_set (i := 1) sc_l_version.nd rfl (.inr rfl) (pe_D D2 hr (by rfl) (pa_cons (pv 0) (pa_cons (pe_lst (pa_cons (pe_lst (pa_cons pe_int (pa_cons pe_int (pa_cons pe_int pa_nil)))) (pa_cons (pe_lst (pa_cons pe_int (pa_cons pe_int pa_nil)))
        (pa_cons (pe_lst (pa_cons pe_int (pa_cons pe_int (pa_cons pe_int pa_nil)))) (pa_cons (pe_lst (pa_cons pe_int (pa_cons pe_int (pa_cons pe_int pa_nil)))) pa_nil))))) pa_nil))))
    (pss_one (ps_ret (pe_callTy (tupK K) (by rfl) (G.free "tuple" (by decide +kernel)) rfl (pa_cons (pe_lcW (own := [("_law_part", 2)]) sc_l_version.nd (blkOk_by (N := n_l_version) (sc := defScope s_l_version) (by decide +kernel)) (pi_range1 (by rfl) (G.free "range" (by decide +kernel)) (pa_cons pe_int pa_nil))
      (fun s' H' C cl fp => pg_name (i := 2) sc_l_version.nd rfl (.inl rfl)) (fun s' H' C cl fp => pts_nil) (fun s' H' C cl fp => pe_D D2 hr (by rfl) (pa_cons (pv 0) (pa_cons (pv 1) pa_nil)))) pa_nil)))), ?_⟩
  refine ⟨.ref B, rfl, by show 3 ≤ sizeLine; decide, fun p1 h1 => ⟨by show 2 ≤ sizeLine; decide, fun p2 h2 => ⟨by show 3 ≤ sizeLine; decide, fun p3 h3 => ⟨by show 3 ≤ sizeLine; decide, fun p4 h4 => ?_⟩⟩⟩⟩
  have k1 := Go.new (T := T) (M := []) (o := .lst [V.int 0, V.int 1, V.int 2]) h1
  have k2 := Go.new (T := T) (M := []) (o := .lst [V.int 0, V.int 1]) h2
  have k3 := Go.new (T := T) (M := []) (o := .lst [V.int 1, V.int 2, V.int 10]) h3
  have k4 := Go.new (T := T) (M := []) (o := .lst [V.int 0, V.int 999999, V.int 1]) h4
  have b1 := hb.go k1
  have b2 := b1.go k2
  have b3 := b2.go k3
  have b4 := b3.go k4
  have n1 := ((nums_new (ns := [0, 1, 2]) hb h1 (by decide)).go k2.goB).go (k3.goB.trans k4.goB)
  have n2 := (nums_new (ns := [0, 1]) b1 h2 (by decide)).go (k3.goB.trans k4.goB)
  have n3 := (nums_new (ns := [1, 2, 10]) b2 h3 (by decide)).go k4.goB
  have n4 := nums_new (ns := [0, 999999, 1]) b3 h4 (by decide)
  have k1234 := ((k1.trans k2).trans k3).trans k4
  refine one_of b4 (by show 1 ≤ 4; decide) (by show 4 ≤ 1000; decide) fun j x H1 hj g1 hb1 => ?_
  obtain ⟨q, rfl, hq⟩ : ∃ q, x = .ref q ∧ Nums H1 B q := by
    match j, hj with
    | 0, hj => exact ⟨p1, (Option.some.inj hj).symm, n1.go g1⟩
    | 1, hj => exact ⟨p2, (Option.some.inj hj).symm, n2.go g1⟩
    | 2, hj => exact ⟨p3, (Option.some.inj hj).symm, n3.go g1⟩
    | 3, hj => exact ⟨p4, (Option.some.inj hj).symm, n4.go g1⟩
  refine ⟨3, rfl, by omega, by omega, ?_⟩
  have g01 := k1234.goB.trans g1
  refine lc_bag (T := T) (B := B) (C := C) it_rng (fun _ y _ => ∃ c : Nat, y = .int ((c : Nat) : Int) ∧ c < 1000000) (show (3 : Nat) < sizeLine by decide) hb1 (fun _ _ _ _ => trivial) (fun _ _ _ _ _ _ h => h) (fun i x H' Kc Kn hi g bb it kc => ?_) fun r ys H3 hr3 g3 b3' hl3 pr => ?_
  · have hqq := hq.go g
    obtain ⟨hqB, ns, hqs, l1, l2, hns⟩ := hqq
    refine ⟨rfl, lc_yes ⟨_, rfl, _, rfl, B, C, q, _, rfl, bb, hqs, hqB, by rw [List.length_map]; exact l1, by rw [List.length_map]; omega, fun j' x' H4 hj' g4 b4' => ?_⟩⟩
    rw [List.getElem?_map] at hj'
    cases hm : ns[j']? with
    | none => rw [hm] at hj'; cases hj'
    | some m =>
      rw [hm] at hj'
      obtain rfl : V.int m = x' := Option.some.inj hj'
      have hm2 := hns m (List.mem_of_getElem? hm)
      exact kc _ _ g4 b4' ⟨m.toNat, by congr 1; omega, by omega⟩
  · have hys : ∃ a b c : Nat, ys = [.int (a : Int), .int (b : Int), .int (c : Int)] ∧ a < 1000000 ∧ b < 1000000 ∧ c < 1000000 := by
      have e : (List.range (3 : Int).toNat) = [0, 1, 2] := by decide
      rw [e] at pr
      cases pr with
      | cons r1 pr =>
        cases pr with
        | cons r2 pr =>
          cases pr with
          | cons r3 pr =>
            cases pr
            obtain ⟨a, rfl, ha⟩ := r1
            obtain ⟨b, rfl, hb⟩ := r2
            obtain ⟨c, rfl, hc⟩ := r3
            exact ⟨a, b, c, rfl, ha, hb, hc⟩
    obtain ⟨a, b, c, rfl, ha, hb, hc⟩ := hys
    obtain ⟨n, hn, en⟩ := ver_mk ha hb hc
    refine ⟨r, _, rfl, .inl ⟨.of hl3, fun d hd => ?_⟩⟩
    have g5 := Go.new (T := T) (M := []) (o := .tup [V.int (a : Int), V.int (b : Int), V.int (c : Int)]) hd
    exact qq _ n _ ((g01.trans g3).trans g5.goB) (b3'.go g5) ⟨d, rfl, by show upd _ _ _ _ = _; rw [upd_same, en]; rfl, hn⟩
end
end K3

namespace K3
open PySem PySem.Spec PyProof.Rows L2
/-- a list of few versions stands at q -/
def VList (H : Hp) (B q : Addr) (k : Nat) : Prop := q ≠ B ∧ ∃ us ns, H q = some (.lst us) ∧ Vers H us ns ∧ us.length ≤ k
theorem VList.go {T : Tbl} {H H1 : Hp} {B q : Addr} {k : Nat} (h : VList H B q k) (g : Go T [B] H H1) : VList H1 B q k := by
  obtain ⟨h1, us, ns, h2, h3, h4⟩ := h
  exact ⟨h1, us, ns, g.lst h2 (by simpa using h1), h3.go g, h4⟩
theorem vlist_new {H : Hp} {B C q : Addr} {us : List V} {ns : List Nat} {k : Nat} (hb : IsBag H B C) (hq : H q = none) (hv : Vers H us ns) (hl : us.length ≤ k) : VList (upd H q (.lst us)) B q k :=
  ⟨(bag_apart hb hq).1, us, ns, upd_same, hv.go (Go.new (T := []) (M := []) hq), hl⟩
theorem ver_new {H : Hp} {p : Addr} {a b c : Int} (h : (decide (0 ≤ a ∧ a < 1000000) && (decide (0 ≤ b ∧ b < 1000000) && decide (0 ≤ c ∧ c < 1000000))) = true) : ∃ n, IsV (Th (upd H p (.tup [V.int a, V.int b, V.int c]))) (.ref p) n := by
  simp only [Bool.and_eq_true, decide_eq_true_eq] at h
  obtain ⟨n, hn, en⟩ := ver_mk (a := a.toNat) (b := b.toNat) (c := c.toNat) (by omega) (by omega) (by omega)
  refine ⟨n, p, rfl, ?_, hn⟩
  show upd _ _ _ _ = _
  rw [upd_same, en]
  have e1 : ((a.toNat : Nat) : Int) = a := by omega
  have e2 : ((b.toNat : Nat) : Int) = b := by omega
  have e3 : ((c.toNat : Nat) : Int) = c := by omega
  rw [e1, e2, e3]
  rfl
section
variable {P : Program} {w : World} {K : PySem.W.Frag} {mg : Str → Option Value} {base : Heap} {T : Tbl}
def spFar (T : Tbl) : Sp := fun vs H Q _ => ∃ (B C : Addr), vs = [.ref B] ∧ IsBag H B C ∧ GiveV T B C 6 H Q
theorem ok_l_far_versions (G : Glo K mg) (D : Top K mg "_law_far_versions" s_l_far_versions) (D1 : DefF P w K mg base 1 "_law_take" ["_law_bag_here", "_law_many"] (spTake T)) (D2 : DefF P w K mg base 2 "_law_one" ["_law_bag_here", "_law_things"] (spOne T))
    (D3 : DefF P w K mg base 3 "_law_versions" ["_law_bag_here", "_law_many"] (spVersions T)) (D4 : DefF P w K mg base 3 "_law_version" ["_law_bag_here"] (spVersion T)) : DefF P w K mg base 4 "_law_far_versions" ["_law_bag_here"] (spFar T) := by
  refine def_of D sc_l_far_versions bd_l_far_versions (fun vs H Q E ⟨_, _, e, _⟩ => by rw [e]; rfl) ?_
  rintro f cdv A outer s H vs Q E hr ⟨B, C, rfl, hb, qq⟩
  refine ⟨_, pss_cons (ps_set (i := 1) sc_l_far_versions.nd rfl (.inl rfl) (pe_op op_cat (pe_D D3 hr (by rfl) (pa_cons (pv 0) (pa_cons (pe_D D2 (hr.mono (by decide)) (by rfl) (pa_cons (pv 0) (pa_cons (pe_lst (pa_cons pe_int (pa_cons pe_int (pa_cons pe_int pa_nil)))) pa_nil))) pa_nil)))
      (pe_lcW (own := [("_law_turn", 4)]) sc_l_far_versions.nd (blkOk_by (N := n_l_far_versions) (sc := defScope s_l_far_versions) (by decide +kernel)) (pi_range1 (by rfl) (G.free "range" (by decide +kernel)) (pa_cons (pe_D D1 (hr.mono (by decide)) (by rfl) (pa_cons (pv 0) (pa_cons pe_int pa_nil))) pa_nil))
        (fun s' H' C cl fp => pg_name (i := 4) sc_l_far_versions.nd rfl (.inl rfl)) (fun s' H' C cl fp => pts_nil) (fun s' H' C cl fp => pe_D D4 hr (by rfl) (pa_cons (pv 0) pa_nil)))))
    (pss_cons (ps_set (i := 2) sc_l_far_versions.nd rfl (.inl rfl) (pe_tup (pa_cons pe_int (pa_cons pe_int (pa_cons pe_int pa_nil)))))
    (pss_cons (ps_set (i := 3) sc_l_far_versions.nd rfl (.inl rfl) (pe_lst (pa_cons (pe_lst pa_nil) (pa_cons (pe_lst (pa_cons (pv 2) pa_nil)) (pa_cons (pe_lst (pa_cons (pe_tup (pa_cons pe_int (pa_cons pe_int (pa_cons pe_int pa_nil)))) pa_nil))
        (pa_cons (pe_lst (pa_cons (pe_tup (pa_cons pe_int (pa_cons pe_int (pa_cons pe_int pa_nil)))) pa_nil)) (pa_cons (pe_lst (pa_cons (pe_tup (pa_cons pe_int (pa_cons pe_int (pa_cons pe_int pa_nil)))) (pa_cons (pv 2) pa_nil))) pa_nil)))))))
    (pss_one (ps_ret (pe_slice (slL K) (pe_callB (cr_sortedT rfl) (by rfl) (G.free "sorted" (by decide +kernel)) rfl (pa_cons (pe_callTy (cr_setOfT rfl hr.units) (by rfl) (G.free "set" (by decide +kernel)) rfl (pa_cons (pe_op op_cat (pv 1) (pe_D D2 (hr.mono (by decide)) (by rfl) (pa_cons (pv 0) (pa_cons (pv 3) pa_nil)))) pa_nil)) pa_nil))
      po_none (po_some pe_int)))))), ?_⟩
  refine ⟨.ref B, rfl, .ref B, rfl, one_of hb (by decide) (by decide) fun j x H1 hj g1 b1 => ?_⟩
  obtain ⟨m, rfl, hm⟩ : ∃ m : Nat, x = .int ((m : Nat) : Int) ∧ m ≤ 5 := by
    match j, hj with
    | 0, hj => exact ⟨3, (Option.some.inj hj).symm, by decide⟩
    | 1, hj => exact ⟨1, (Option.some.inj hj).symm, by decide⟩
    | 2, hj => exact ⟨5, (Option.some.inj hj).symm, by decide⟩
  refine ⟨B, C, m, rfl, b1, hm, fun p1 us1 ns1 H2 g2 b2 n1 hp1 hv1 l1 => ?_⟩
  obtain ⟨np1B, np1C⟩ := bag_apart b1 n1
  refine ⟨.ref B, rfl, B, C, 3, rfl, b2, by omega, by omega, fun v H3 hv g3 b3 => ⟨(v : Int), rfl, by omega, by omega, ?_⟩⟩
  have vl1 : VList H2 B p1 5 := ⟨np1B, us1, ns1, hp1, hv1, l1⟩
  refine lc_bag (T := T) (B := B) (C := C) it_rng (fun _ y H' => ∃ n, IsV (Th H') y n) (by rw [sizeLine_eq]; omega) b3 (fun _ _ _ _ => trivial) (fun i y q H' H'' g h => by obtain ⟨n, h⟩ := h; exact ⟨n, h.goH g⟩) (fun i x H' Kc Kn hi g bb it kc => ?_) fun r ys H4 hr4 g4 b4 hl4 pr => ?_
  · exact ⟨rfl, lc_yes ⟨.ref B, rfl, B, C, rfl, bb, fun y n H5 g5 b5 hy => kc y H5 g5 b5 ⟨n, hy⟩⟩⟩
  have g03 := (g1.trans g2).trans g3
  have g04 := g03.trans g4
  obtain ⟨_, us1', ns1', hp1', hv1', l1'⟩ := (vl1.go g3).go g4
  obtain ⟨ns2, hv2⟩ := vers_ex pr
  have ly : ys.length ≤ 2 := by
    rw [Paired.lenEq pr, List.length_range]
    omega
  refine ⟨p1, r, us1', ys, rfl, rfl, hp1', hl4, by rw [sizeLine_eq]; omega, fun q hq => ?_⟩
  have k5 := Go.new (T := T) (M := []) (o := .lst (us1' ++ ys)) hq
  obtain ⟨hqB, hqC⟩ := bag_apart b4 hq
  refine ⟨by show 3 ≤ sizeLine; decide, fun t ht => ?_⟩
  have k6 := Go.new (T := T) (M := []) (o := .tup [V.int 999999, V.int 999999, V.int 999999]) ht
  obtain ⟨nl, vl⟩ := ver_new (H := upd H4 q (.lst (us1' ++ ys))) (p := t) (a := 999999) (b := 999999) (c := 999999) (by decide)
  generalize hH6 : upd (upd H4 q (.lst (us1' ++ ys))) t (.tup [V.int 999999, V.int 999999, V.int 999999]) = H6 at vl k6 ⊢
  have b6 := (b4.go k5).go k6
  -- the five lists
  refine ⟨by decide, fun c1 h1 => ?_⟩
  have m1 := Go.new (T := T) (M := []) (o := .lst []) h1
  have B1 := b6.go m1
  have L1 := vlist_new (k := 2) b6 h1 (us := []) (ns := []) .nil (by decide)
  generalize upd H6 c1 (.lst []) = H7 at m1 B1 L1 ⊢
  refine ⟨.ref t, rfl, by show 1 ≤ sizeLine; decide, fun c2 h2 => ?_⟩
  have m2 := Go.new (T := T) (M := []) (o := .lst [.ref t]) h2
  have B2 := B1.go m2
  have L2 := vlist_new (k := 2) B1 h2 (.cons (vl.goH m1) .nil) (by show 1 ≤ 2; decide)
  generalize upd H7 c2 (.lst [.ref t]) = H8 at m2 B2 L2 ⊢
  refine ⟨by show 3 ≤ sizeLine; decide, fun t3 ht3 => ?_⟩
  have m3 := Go.new (T := T) (M := []) (o := .tup [V.int 1, V.int 999999, V.int 999999]) ht3
  have B3 := B2.go m3
  obtain ⟨n3, v3⟩ := ver_new (H := H8) (p := t3) (a := 1) (b := 999999) (c := 999999) (by decide)
  generalize upd H8 t3 (.tup [V.int 1, V.int 999999, V.int 999999]) = H9 at m3 B3 v3 ⊢
  refine ⟨by show 1 ≤ sizeLine; decide, fun c3 h3 => ?_⟩
  have m4 := Go.new (T := T) (M := []) (o := .lst [.ref t3]) h3
  have B4 := B3.go m4
  have L3 := vlist_new (k := 2) B3 h3 (.cons v3 .nil) (by show 1 ≤ 2; decide)
  generalize upd H9 c3 (.lst [.ref t3]) = H10 at m4 B4 L3 ⊢
  refine ⟨by show 3 ≤ sizeLine; decide, fun t4 ht4 => ?_⟩
  have m5 := Go.new (T := T) (M := []) (o := .tup [V.int 0, V.int 0, V.int 0]) ht4
  have B5 := B4.go m5
  obtain ⟨n4, v4⟩ := ver_new (H := H10) (p := t4) (a := 0) (b := 0) (c := 0) (by decide)
  generalize upd H10 t4 (.tup [V.int 0, V.int 0, V.int 0]) = H11 at m5 B5 v4 ⊢
  refine ⟨by show 1 ≤ sizeLine; decide, fun c4 h4 => ?_⟩
  have m6 := Go.new (T := T) (M := []) (o := .lst [.ref t4]) h4
  have B6 := B5.go m6
  have L4 := vlist_new (k := 2) B5 h4 (.cons v4 .nil) (by show 1 ≤ 2; decide)
  generalize upd H11 c4 (.lst [.ref t4]) = H12 at m6 B6 L4 ⊢
  refine ⟨by show 3 ≤ sizeLine; decide, fun t5 ht5 => ?_⟩
  have m7 := Go.new (T := T) (M := []) (o := .tup [V.int 999999, V.int 999999, V.int 999998]) ht5
  have B7 := B6.go m7
  obtain ⟨n5, v5⟩ := ver_new (H := H12) (p := t5) (a := 999999) (b := 999999) (c := 999998) (by decide)
  generalize upd H12 t5 (.tup [V.int 999999, V.int 999999, V.int 999998]) = H13 at m7 B7 v5 ⊢
  refine ⟨.ref t, rfl, by show 2 ≤ sizeLine; decide, fun c5 h5 => ?_⟩
  have m8 := Go.new (T := T) (M := []) (o := .lst [.ref t5, .ref t]) h5
  have B8 := B7.go m8
  have e27 := ((((m2.trans m3).trans m4).trans m5).trans m6).trans m7
  have L5 := vlist_new (k := 2) B7 h5 (.cons v5 (.cons ((vl.goH m1).goH e27) .nil)) (by show 2 ≤ 2; decide)
  generalize upd H13 c5 (.lst [.ref t5, .ref t]) = H14 at m8 B8 L5 ⊢
  have f8 := m8
  have f78 := m7.trans m8
  have f68 := m6.trans f78
  have f58 := m5.trans f68
  have f48 := m4.trans f58
  have f38 := m3.trans f48
  have f28 := m2.trans f38
  have f18 := m1.trans f28
  refine ⟨by show 5 ≤ sizeLine; decide, fun la hla => ?_⟩
  have m9 := Go.new (T := T) (M := []) (o := .lst [.ref c1, .ref c2, .ref c3, .ref c4, .ref c5]) hla
  have B9 := B8.go m9
  obtain ⟨hlaB, hlaC⟩ := bag_apart B8 hla
  have P1 := (L1.go f28.goB).go m9.goB
  have P2 := (L2.go f38.goB).go m9.goB
  have P3 := (L3.go f58.goB).go m9.goB
  have P4 := (L4.go f78.goB).go m9.goB
  have P5 := L5.go m9.goB
  -- found
  have F4 : upd H4 q (.lst (us1' ++ ys)) q = some (.lst (us1' ++ ys)) := upd_same
  have F5 := k6.lst F4
  have F6 := m9.lst (f18.lst F5)
  have hv4 : Vers H4 (us1' ++ ys) (ns1' ++ ns2) := Vers.app hv1' hv2
  have g69 := (k5.trans k6).trans (f18.trans m9)
  have hv9 := hv4.go g69
  refine ⟨.ref q, rfl, .ref B, rfl, .ref la, rfl, B, C, la, _, rfl, B9, upd_same, hlaB, by show 1 ≤ 5; decide, by show 5 ≤ 1000; decide, fun i2 x H15 hi2 g15 b15 => ?_⟩
  obtain ⟨cq, rfl, hcq⟩ : ∃ cq, x = .ref cq ∧ VList H15 B cq 2 := by
    match i2, hi2 with
    | 0, hj => exact ⟨c1, (Option.some.inj hj).symm, P1.go g15⟩
    | 1, hj => exact ⟨c2, (Option.some.inj hj).symm, P2.go g15⟩
    | 2, hj => exact ⟨c3, (Option.some.inj hj).symm, P3.go g15⟩
    | 3, hj => exact ⟨c4, (Option.some.inj hj).symm, P4.go g15⟩
    | 4, hj => exact ⟨c5, (Option.some.inj hj).symm, P5.go g15⟩
  obtain ⟨_, us3, ns3, hp3, hv3, l3⟩ := hcq
  have F7 := g15.lst F6 (by simpa using hqB)
  refine ⟨q, cq, _, us3, rfl, rfl, F7, hp3, by rw [List.length_append, sizeLine_eq]; omega, fun z hz => ?_⟩
  have k16 := Go.new (T := T) (M := []) (o := .lst ((us1' ++ ys) ++ us3)) hz
  refine set_sorted (T := T) (K := K) (P := P) (w := w) (Q := fun x H1 => ∃ i, V.int 6 = V.int i ∧ rSlL K x none (some i) H1 Q) (.of upd_same) (Vers.app ((hv9.go g15).go k16) (hv3.go k16)) (by rw [List.length_append, List.length_append]; omega) fun s1 H17 us4 ns4 g17 ns1 hs1 hv5 as mem => ?_
  refine ⟨6, rfl, s1, us4, rfl, .of hs1, fun s2 hs2 => ?_⟩
  have k18 := Go.new (T := T) (M := []) (o := .lst (cutV us4 none (some 6))) hs2
  have gfin := ((((((g04.trans k5.goB).trans k6.goB).trans (f18.trans m9).goB).trans g15).trans k16.goB).trans g17.goB).trans k18.goB
  have gback := ((((((g04.trans k5.goB).trans k6.goB).trans (f18.trans m9).goB).trans g15).trans k16.goB).trans g17.goB)
  rw [cut6] at k18 gfin ⊢
  refine qq s2 (us4.take 6) (ns4.take 6) _ gfin (((b15.go k16).go g17).go k18) (gback.back s2 hs2) upd_same (Vers.go (paired_take 6 hv5) k18) ?_
  rw [List.length_take]
  omega
end
end K3

namespace K3
open PySem PySem.Spec PyProof.Rows L2
theorem Paired.flip {α β : Type} {R : α → β → Prop} : ∀ {l : List α} {m : List β}, Paired R l m → Paired (fun b a => R a b) m l
  | _, _, .nil => .nil
  | _, _, .cons a r => .cons a (Paired.flip r)
theorem asc_head {ns : List Nat} (h : Asc ns) (m : 0 ∈ ns) : ns.head? = some 0 := by
  cases ns with
  | nil => cases m
  | cons x r =>
    rcases List.mem_cons.mp m with rfl | m
    · rfl
    · have := (List.pairwise_cons.mp h).1 0 m
      omega
section
variable {P : Program} {w : World} {K : PySem.W.Frag} {mg : Str → Option Value} {base : Heap} {T : Tbl}
/-- points: versions in order, the least first -/
structure Pts (H : Hp) (p : Addr) (us : List V) (ns : List Nat) (k : Nat) : Prop where
  at_ : H p = some (.lst us)
  vers : Vers H us ns
  asc : Asc ns
  head : ns.head? = some 0
  few : us.length ≤ k
def spNear (T : Tbl) : Sp := fun vs H Q _ => ∃ (l : Addr) (us : List V) (ns : List Nat), vs = [.ref l] ∧ H l = some (.lst us) ∧ Vers H us ns ∧ us.length ≤ 6 ∧ ∀ p us' ns' H', Go T [] H H' → H p = none → Pts H' p us' ns' 13 → Q (.ref p) H'
theorem ok_l_near_points (G : Glo K mg) (D : Top K mg "_law_near_points" s_l_near_points) (D1 : DefF P w K mg base 1 "_law_behind_version" ["_law_version_here"] (spBehind T K)) : DefF P w K mg base 2 "_law_near_points" ["_law_versions_here"] (spNear T) := by
  refine def_of D sc_l_near_points bd_l_near_points (fun vs H Q E ⟨_, _, _, e, _⟩ => by rw [e]; rfl) ?_
  rintro f cdv A outer s H vs Q E hr ⟨l, us, ns, rfl, hl, hv, ln, qq⟩
  refine ⟨_, pss_cons (ps_setLcW (i := 1) (own := [("_law_version_here", 2)]) sc_l_near_points.nd rfl rfl (blkOk_by (N := n_l_near_points) (sc := defScope s_l_near_points) (by decide +kernel)) (pi_list (pv 0))
      (fun s' H' C cl fp => pg_name (i := 2) sc_l_near_points.nd rfl (.inl rfl)) (fun s' H' C cl fp => pts_nil) (fun s' H' C cl fp => pe_D D1 hr (by rfl) (pa_cons (pv 2) pa_nil)))
    (pss_one (ps_ret (pe_callB (cr_sortedT rfl) (by rfl) (G.free "sorted" (by decide +kernel)) rfl (pa_cons (pe_callTy (cr_setOfT rfl hr.units) (by rfl) (G.free "set" (by decide +kernel)) rfl (pa_cons
      (pe_op op_cat (pe_op op_cat (pe_lst (pa_cons (pe_tup (pa_cons pe_int (pa_cons pe_int (pa_cons pe_int pa_nil)))) pa_nil)) (pe_callTy (lstK K) (by rfl) (G.free "list" (by decide +kernel)) rfl (pa_cons (pv 0) pa_nil)))
        (pe_lcW (own := [("_law_version_here", 2)]) sc_l_near_points.nd (blkOk_by (N := n_l_near_points) (sc := defScope s_l_near_points) (by decide +kernel)) (pi_list (pv 1))
          (fun s' H' C cl fp => pg_name (i := 2) sc_l_near_points.nd rfl (.inl rfl)) (fun s' H' C cl fp => pts_one (pt_cmp (pc_notN (pv 2)))) (fun s' H' C cl fp => pv 2))) pa_nil)) pa_nil)))), ?_⟩
  refine ⟨.ref l, rfl, l, rfl, ⟨_, .of hl⟩, ?_⟩
  refine lc_go (T := T) (M := []) (it_lst (xs := us)) (fun _ => true) (fun i y H' => ∃ n, ns[i]? = some n ∧ IsE (Th H') y (nxt n)) (fun _ _ => True) (by rw [sizeLine_eq]; omega) (fun b m => by cases m)
    (fun q H' hq g => .of (g.lst hl (by simp only [List.mem_singleton]; rintro rfl; rw [hl] at hq; cases hq))) (fun i y q H' H'' _ g h => by obtain ⟨n, e, h⟩ := h; exact ⟨n, e, h.goH g⟩) (fun i x H' Kc Kn hi g it kc _ => ?_) fun q ys H1 hq g1 hl1 pr => ?_
  · have hn : i < ns.length := by rw [Paired.lenEq hv]; exact hi
    have hx := Paired.all (Paired.flip hv) i ns[i] x (List.getElem?_eq_getElem hn) it
    have hx := hx.goH g
    exact ⟨rfl, lc_yes ⟨x, rfl, x, ns[i], rfl, hx.soft, fun y H4 g4 hy => kc y H4 rfl g4 ⟨_, List.getElem?_eq_getElem hn, hy⟩ fun _ _ _ => trivial⟩⟩
  rw [keep_all] at pr
  have lys : ys.length = us.length := by rw [Paired.lenEq pr, List.length_range]
  refine ⟨by show 3 ≤ sizeLine; decide, fun t ht => ⟨by show 1 ≤ sizeLine; decide, fun c hc => ?_⟩⟩
  have k2 := Go.new (T := T) (M := []) (o := .tup [V.int 0, V.int 0, V.int 0]) ht
  have k3 := Go.new (T := T) (M := []) (o := .lst [.ref t]) hc
  have iv0 : IsV (Th (upd H1 t (.tup [V.int 0, V.int 0, V.int 0]))) (.ref t) 0 := ⟨t, rfl, upd_same, by decide⟩
  have hl3 := (g1.trans (k2.trans k3)).lst hl
  refine ⟨.ref l, rfl, l, us, rfl, .inl (.of hl3), fun d hd => ?_⟩
  have k4 := Go.new (T := T) (M := []) (o := .lst us) hd
  refine ⟨c, d, [.ref t], us, rfl, rfl, k4.lst upd_same, upd_same, by rw [sizeLine_eq, List.length_singleton]; omega, fun e he => ?_⟩
  have k5 := Go.new (T := T) (M := []) (o := .lst ([V.ref t] ++ us)) he
  have k25 := ((k2.trans k3).trans k4).trans k5
  have hq5 := k25.lst hl1
  have hv5 := hv.go (g1.trans k25)
  have pr5 : Paired (fun i y => ∃ n, ns[i]? = some n ∧ IsE (Th (upd (upd (upd (upd H1 t (.tup [V.int 0, V.int 0, V.int 0])) c (.lst [.ref t])) d (.lst us)) e (.lst ([V.ref t] ++ us)))) y (nxt n)) (List.range us.length) ys := Paired.mapP pr fun i y h => by obtain ⟨n, e, h⟩ := h; exact ⟨n, e, h.goH k25⟩
  have he5 : upd (upd (upd (upd H1 t (.tup [V.int 0, V.int 0, V.int 0])) c (.lst [.ref t])) d (.lst us)) e (.lst ([V.ref t] ++ us)) e = some (.lst ([V.ref t] ++ us)) := upd_same
  have iv5 := iv0.goH ((k3.trans k4).trans k5)
  have gg5 := g1.trans k25
  generalize upd (upd (upd (upd H1 t (.tup [V.int 0, V.int 0, V.int 0])) c (.lst [.ref t])) d (.lst us)) e (.lst ([V.ref t] ++ us)) = H5 at hq5 hv5 pr5 he5 iv5 gg5 ⊢
  refine ⟨.ref q, rfl, q, rfl, ⟨_, .of hq5⟩, ?_⟩
  refine lc_go (T := T) (M := []) (it_lst (xs := ys)) (fun i => match ys[i]? with | some .non => false | _ => true) (fun i y H' => ∃ m, IsV (Th H') y m) (fun _ _ => True) (by rw [sizeLine_eq]; omega) (fun b m => by cases m)
    (fun q2 H' hq2 g => .of (g.lst hq5 (by simp only [List.mem_singleton]; rintro rfl; rw [hq5] at hq2; cases hq2))) (fun i y q H' H'' _ g h => by obtain ⟨n, h⟩ := h; exact ⟨n, h.goH g⟩) (fun i x H' Kc Kn hi g it kc kn => ?_) fun q3 zs H6 hq3 g6 hl6 pr6 => ?_
  · obtain ⟨n, en, hx⟩ := Paired.all pr5 i i x (by rw [List.getElem?_range (by omega)]) it
    refine ⟨rfl, x, rfl, _, rfl, ?_⟩
    cases hn : nxt n with
    | none =>
      rw [hn] at hx
      cases (show x = .non from hx)
      exact iteF (kn H' (by rw [it]) Go.refl)
    | some k =>
      rw [hn] at hx
      have hx' : IsV (Th H5) x k := hx
      obtain ⟨p, rfl, hp⟩ := hx'
      exact iteT ⟨_, rfl, kc _ H' (by rw [it]) Go.refl ⟨k, IsV.goH hx g⟩ fun _ _ _ => trivial⟩
  obtain ⟨ms, hms⟩ := vers_ex pr6
  have lzs : zs.length ≤ 6 := by
    rw [Paired.lenEq pr6]
    exact Nat.le_trans (List.length_filter_le _ _) (by rw [List.length_range]; omega)
  refine ⟨e, q3, _, zs, rfl, rfl, g6.lst he5, hl6, by rw [List.length_append, List.length_singleton, sizeLine_eq]; omega, fun z hz => ?_⟩
  have k7 := Go.new (T := T) (M := []) (o := .lst (([V.ref t] ++ us) ++ zs)) hz
  refine set_sorted (T := T) (ns := ([0] ++ ns) ++ ms) (.of upd_same) (Vers.app (Vers.app (.cons ((iv5.goH g6).goH k7) .nil) ((hv5.go g6).go k7)) (hms.go k7)) (by rw [List.length_append, List.length_append, List.length_singleton]; omega) fun p H8 us' ns' g8 np hp8 hv8 as mem => ?_
  have gall := (gg5.trans g6).trans k7
  refine qq p us' ns' H8 (gall.trans g8) (gall.back p np) ⟨hp8, hv8, as, asc_head as ((mem 0).mpr (by simp)), ?_⟩
  have l1 := nodup_len as fun n h => (mem n).mp h
  have l2 := Paired.lenEq hv8
  have l3 := Paired.lenEq hv
  have l4 := Paired.lenEq hms
  simp only [List.length_append, List.length_singleton] at l1
  omega
end
end K3

/-! dict(pairs), the keys versions -/
namespace K3
open PySem PySem.Spec PyProof.Rows L2
theorem stored_all {K : Type} [DecidableEq K] : ∀ (ps acc : List (K × Addr × Value)), ((acc ++ ps).map (·.1)).Nodup → storedAllH acc ps = acc ++ ps
  | [], acc, _ => by simp [storedAllH]
  | p :: ps, acc, h => by
    have h0 : atKey acc p.1 = none := by
      have hn : p.1 ∉ acc.map (·.1) := fun hm => by
        rw [List.map_append] at h
        exact (List.nodup_append.mp h).2.2 _ hm _ (by rw [List.map_cons]; exact List.mem_cons_self ..) rfl
      unfold atKey
      have e : acc.find? (fun x => decide (x.1 = p.1)) = none := List.find?_eq_none.mpr fun x hx hd => hn (List.mem_map.mpr ⟨x, hx, of_decide_eq_true hd⟩)
      rw [e]
      rfl
    have e : storedAllH acc (p :: ps) = storedAllH (storedH acc p.1 p.2.1 p.2.2) ps := rfl
    rw [e, storedH_new h0, stored_all ps (acc ++ [(p.1, p.2.1, p.2.2)]) (by simpa using h)]
    simp
abbrev KvAt (H : Hp) (p : List Key × V) (q : List Key × Addr × Value) : Prop := p.1 = q.1 ∧ H q.2.1 = some (.tup (p.1.map kV)) ∧ RelV p.2 q.2.2
theorem kv_keys {H : Hp} : ∀ {kvs : List (List Key × V)} {ps : List (List Key × Addr × Value)}, Paired (KvAt H) kvs ps → ps.map (·.1) = kvs.map (·.1)
  | _, _, .nil => rfl
  | _, _, .cons a r => by rw [List.map_cons, List.map_cons, kv_keys r, a.1]
theorem kv_mem {H : Hp} {kvs : List (List Key × V)} {ps : List (List Key × Addr × Value)} (pr : Paired (KvAt H) kvs ps) : ∀ x ∈ ps, H x.2.1 = some (.tup (x.1.map kV)) := fun x hx => by
  obtain ⟨i, hi⟩ := List.mem_iff_getElem?.mp hx
  obtain ⟨y, _, e1, e2, _⟩ := Paired.at (Paired.flip pr) hi
  rw [← e1]
  exact e2
section
variable {X : Cx} {pins : List (Addr × Obj)} {σ : L2.St} {H : Hp} {s0 : Shared}
theorem is_key {s : Shared} (I : Inv X pins σ H s) {ks : List Key} {a : Addr} (h : H a = some (.tup (ks.map kV))) : IsTupleKey (mixKind X.prog X.w) s.heap ks a := by
  obtain ⟨its, rv, ⟨o, e1, e2, n, e3⟩, _⟩ := I.tuple (.of h)
  exact ⟨o, _, n, e1, e2, e3, items_are rv⟩
theorem dict_run {T : String} {a : Addr} {fp wr : List Addr} {n : Nat} {Rel : Nat → Value → Value → Prop} {OK : Heap → Prop} {h1 : Heap} {tk1 : Nat} {kvs : List (List Key × V)} {ps : List (List Key × Addr × Value)} {Q : VK} {E : Value → Shared → Prop} (I0 : Inv X pins σ H s0)
    (kp1 : ∀ b o, s0.heap.get? b = some o → h1.get? b = some o) (le : s0.heap.objs.size ≤ h1.objs.size) (PA : PairArg X.prog X.w T a fp wr n Rel OK) (hw : ∀ b ∈ wr, s0.heap.objs.size ≤ b) (ok : OK h1) (pr : Paired (KvAt H) kvs ps) (nd : (kvs.map (·.1)).Nodup)
    (hc : PairsHaveH (tupleKind (mixKind X.prog X.w)) n Rel ps) (hsz : kvs.length ≤ 1000) (hd : X.A.handled = none) (hu : X.A.units + 64 < cLine) (q : ∀ d, H d = none → Q (.ref d) (upd H d (.dT kvs))) :
    wpAny (model X.prog X.w) X.A (call (.type "dict") [.ref a]) (EP X pins σ Q) E { s0 with heap := h1, toks := tk1 } := by
  have lp := Paired.lenEq pr
  have hn : n = ps.length := hc.1.symm
  have low : ∀ x ∈ ps, x.2.1 < s0.heap.objs.size := fun x hx => by
    obtain ⟨o, _, _, e1, _⟩ := is_key I0 (kv_mem pr x hx)
    exact Heap.lt_size e1
  refine call_dict_pairsH (s := { s0 with heap := h1, toks := tk1 }) (knd := tupleKind (mixKind X.prog X.w)) (ps := ps) PA hd (by show X.A.units + 1 + 1 < cLine; omega) ok hc (fun h' hk x hx => ?_) (by rw [hn, lp, sizeLine_eq]; omega) fun h' tk hD hk => ?_
  · obtain ⟨o, its, m, e1, e2, e3, e4⟩ := is_key I0 (kv_mem pr x hx)
    have hlt := low x hx
    exact ⟨o, its, m, hk _ _ (Nat.ne_of_lt (Nat.lt_of_lt_of_le hlt le)) (fun z => absurd (hw _ z) (Nat.not_le.mpr hlt)) (kp1 _ _ e1), e2, e3, e4⟩
  · have nd2 : (([] ++ ps).map (fun x : List Key × Addr × Value => x.1)).Nodup := by rw [List.nil_append, kv_keys pr]; exact nd
    rw [stored_all ps [] nd2, List.nil_append] at hD
    have kp : ∀ b o, s0.heap.get? b = some o → h'.get? b = some o := fun b o e => hk b o (fun z => absurd (hw _ z) (Nat.not_le.mpr (Heap.lt_size e))) (kp1 b o e)
    have nH : H h1.objs.size = none := I0.hok.fresh le
    refine ⟨.ref h1.objs.size, upd H h1.objs.size (.dT kvs), I0.laid (t' := tk) kp le ?_, rfl, q _ nH⟩
    obtain ⟨o, es, ep, f1, f2, f3, f4, f5, f6⟩ := hD
    refine ⟨by rw [sizeLine_eq]; omega, ?_, ps, Paired.mapP pr fun p z hz => ⟨hz.1, ?_, hz.2.2⟩, o, es, ep, f1, f2, f3, f4, f6⟩
    · have hb := StX.env0_big I0.env0
      exact beq_eq_false_iff_ne.mpr (Nat.ne_of_gt (Nat.lt_of_lt_of_le hb le))
    · rw [upd_ne (ne_of_none hz.2.1 nH)]
      exact hz.2.1
/-- the key of a version -/
abbrev kk (n : Nat) : List Key := (vI n).map Sum.inl
theorem kk_V (n : Nat) : (kk n).map kV = (vI n).map V.int := rfl
theorem kk_inj {n m : Nat} (h : kk n = kk m) : n = m := vI_inj (by
  have h1 : ([Sum.inl (VA n), Sum.inl (VB n), Sum.inl (VC n)] : List Key) = [Sum.inl (VA m), Sum.inl (VB m), Sum.inl (VC m)] := h
  simp only [List.cons.injEq, Sum.inl.injEq, and_true] at h1
  obtain ⟨a, b, c⟩ := h1
  show [VA n, VB n, VC n] = [VA m, VB m, VC m]
  rw [a, b, c])
theorem kk_nodup : ∀ {ns : List Nat}, Asc ns → (ns.map kk).Nodup := fun {ns} h => by
  refine List.pairwise_map.mpr (h.imp fun {a b} hab e => ?_)
  have := kk_inj e
  omega
/-- the dict of versions ns and truths rs -/
def dKv (ns : List Nat) (rs : List Bool) : List (List Key × V) := (ns.zip rs).map fun p => (kk p.1, V.bl p.2)
theorem Paired.ofGet {α β : Type} {R : α → β → Prop} : ∀ {l : List α} {m : List β}, l.length = m.length → (∀ (i : Nat) (a : α) (b : β), l[i]? = some a → m[i]? = some b → R a b) → Paired R l m
  | [], [], _, _ => .nil
  | a :: l, b :: m, hl, h => .cons (h 0 a b rfl rfl) (Paired.ofGet (by simpa using hl) fun i x y hx hy => h (i + 1) x y (by simpa using hx) (by simpa using hy))
theorem dKv_keys {ns : List Nat} {rs : List Bool} (hl : rs.length = ns.length) : (dKv ns rs).map (·.1) = ns.map kk := by
  unfold dKv
  rw [List.map_map]
  have e : ns = (ns.zip rs).map (·.1) := (List.map_fst_zip (by omega)).symm
  conv => rhs; rw [e, List.map_map]
  rfl
/-- dict(l), l a list of pairs of a version and a truth -/
def rDictL : List V → Hp → VK → Prop := fun xs H Q => ∃ (l : Addr) (ts : List V) (ns : List Nat) (rs : List Bool), xs = [.ref l] ∧ H l = some (.lst ts) ∧ Asc ns ∧ rs.length = ns.length ∧ ns.length ≤ 1000 ∧
  Paired (fun t (p : Nat × Bool) => ∃ a b, t = V.ref a ∧ H a = some (.tup [.ref b, .bl p.2]) ∧ H b = some (.tup ((vI p.1).map V.int))) ts (ns.zip rs) ∧ ∀ d, H d = none → Q (.ref d) (upd H d (.dT (dKv ns rs)))
theorem call_dictL (hc : X.calm = true) (hu : X.A.units + 64 < cLine) : CallR X (.type "dict") rDictL := by
  intro pins s σ H xs us Q I r h
  obtain ⟨l, ts, ns, rs, rfl, hl, as, lr, ln, pr, q⟩ := h
  rw [Vals.ref1 r]
  obtain ⟨z, its, n, rv, hlen, e⟩ := I.lstM hl
  -- the pairs' addresses, the keys' addresses
  have ex : ∀ {ts : List V} {us : List Value} {zs : List (Nat × Bool)}, Vals ts us → Paired (fun t (p : Nat × Bool) => ∃ a b, t = V.ref a ∧ H a = some (.tup [.ref b, .bl p.2]) ∧ H b = some (.tup ((vI p.1).map V.int))) ts zs →
      ∃ (As Bs : List Addr), us = As.map Value.ref ∧ As.length = zs.length ∧ Bs.length = zs.length ∧ ∀ (i : Nat) (p : Nat × Bool), zs[i]? = some p → ∃ a b, As[i]? = some a ∧ Bs[i]? = some b ∧ H a = some (.tup [.ref b, .bl p.2]) ∧ H b = some (.tup ((vI p.1).map V.int)) := by
    intro ts us zs rv pr
    induction pr generalizing us with
    | nil =>
      cases rv
      exact ⟨[], [], rfl, rfl, rfl, fun i p h => by simp at h⟩
    | cons x _ ih =>
      cases rv with
      | cons r1 rv =>
        obtain ⟨a, b, rfl, h1, h2⟩ := x
        obtain rfl := r1
        obtain ⟨As, Bs, e1, e2, e3, e4⟩ := ih rv
        refine ⟨a :: As, b :: Bs, by rw [e1]; rfl, congrArg (· + 1) e2, congrArg (· + 1) e3, fun i p h => ?_⟩
        cases i with
        | zero =>
          simp at h
          subst h
          exact ⟨a, b, rfl, rfl, h1, h2⟩
        | succ i => exact e4 i p (by simpa using h)
  obtain ⟨As, Bs, e1, e2, e3, e4⟩ := ex rv pr
  have lz : (ns.zip rs).length = ns.length := by rw [List.length_zip]; omega
  have lzb : ((ns.zip rs).zip Bs).length = ns.length := by rw [List.length_zip]; omega
  -- what stands at place i
  have zb : ∀ (i : Nat) (q : (Nat × Bool) × Addr), ((ns.zip rs).zip Bs)[i]? = some q → ∃ a, As[i]? = some a ∧ H a = some (.tup [.ref q.2, .bl q.1.2]) ∧ H q.2 = some (.tup ((vI q.1.1).map V.int)) := fun i q hq => by
    have h1 : (ns.zip rs)[i]? = some q.1 ∧ Bs[i]? = some q.2 := by
      obtain ⟨x, y⟩ := q
      exact List.getElem?_zip_eq_some.mp hq
    obtain ⟨a, b, f1, f2, f3, f4⟩ := e4 i q.1 h1.1
    rw [h1.2] at f2
    cases f2
    exact ⟨a, f1, f3, f4⟩
  have PA := PairArg.list (prog := X.prog) (w := X.w) l its.toArray (fun j => As.getD j 0) (((ns.zip rs).zip Bs).map fun q => (Value.ref q.2, Value.bool q.1.2))
  refine dict_run (tk1 := s.toks) (ps := ((ns.zip rs).zip Bs).map fun q => (kk q.1.1, q.2, Value.bool q.1.2)) I (fun _ _ e => e) (Nat.le_refl _) PA (fun b hb => by cases hb) ⟨⟨_, n, e, rfl, rfl, rfl⟩, ?_, fun j k v hj => ?_⟩ (Paired.ofGet ?_ fun i p z hp hz => ?_) ?_ ⟨?_, fun i key v hi => ?_⟩ ?_ (I.ok.hd hc) hu q
  · rw [e1, List.size_toArray, List.length_map, List.length_map]
    omega
  · rw [List.getElem?_map] at hj
    cases hq : ((ns.zip rs).zip Bs)[j]? with
    | none => rw [hq] at hj; cases hj
    | some z =>
      rw [hq] at hj
      obtain ⟨a, f1, f2, f3⟩ := zb j z hq
      cases Option.some.inj hj
      have ea : As.getD j 0 = a := by rw [List.getD_eq_getElem?_getD, f1]; rfl
      refine ⟨?_, ?_⟩
      · rw [e1, List.getElem?_toArray, List.getElem?_map, f1]
        show some (Value.ref a) = some (Value.ref (As.getD j 0))
        rw [ea]
      · show PairAt s.heap (As.getD j 0) _ _
        rw [ea]
        obtain ⟨us, rv2, ⟨o, o1, o2, n2, o3⟩, _⟩ := I.tuple (.of f2)
        cases rv2 with
        | cons r1 rv2 =>
          cases rv2 with
          | cons r2 rv2 =>
            cases rv2
            obtain rfl := r1
            obtain rfl := r2
            exact .inl ⟨o, o1, o2, n2, o3⟩
  · show ((ns.zip rs).map _).length = _
    rw [List.length_map, List.length_map]
    omega
  · have hp : ((ns.zip rs).map fun p => (kk p.1, V.bl p.2))[i]? = some p := hp
    rw [List.getElem?_map] at hp hz
    cases hq : ((ns.zip rs).zip Bs)[i]? with
    | none => rw [hq] at hz; cases hz
    | some y =>
      have hy : (ns.zip rs)[i]? = some y.1 := by
        obtain ⟨y1, y2⟩ := y
        exact (List.getElem?_zip_eq_some.mp hq).1
      rw [hq] at hz
      rw [hy] at hp
      cases Option.some.inj hz
      cases Option.some.inj hp
      obtain ⟨a, f1, f2, f3⟩ := zb i y hq
      exact ⟨rfl, f3, rfl⟩
  · rw [dKv_keys lr]
    exact kk_nodup as
  · rw [List.length_map, List.length_map]
  · have hi : (((ns.zip rs).zip Bs).map fun q => (Value.ref q.2, Value.bool q.1.2))[i]? = some (key, v) := hi
    rw [List.getElem?_map] at hi
    cases hq : ((ns.zip rs).zip Bs)[i]? with
    | none => rw [hq] at hi; cases hi
    | some y =>
      rw [hq] at hi
      cases Option.some.inj hi
      exact ⟨kk y.1.1, y.2, by rw [List.getElem?_map, hq]; rfl, rfl⟩
  · show ((ns.zip rs).map _).length ≤ 1000
    rw [List.length_map]
    omega
theorem refs_pairs : ∀ {ks : List (Addr × Nat)} {us : List Value}, Vals (ks.map fun p => V.ref p.1) us → us = ks.map fun p => Value.ref p.1
  | [], _, .nil => rfl
  | z :: ks, _, .cons r t => by
    obtain rfl := r
    rw [refs_pairs t]
    rfl
/-- dict(zip(a, b)): the versions, the truths -/
def tDictZip (K : PySem.W.Frag) (t : TA) : TE := fun σ H Q => t σ H fun vs H1 => ∃ (a b : Addr) (us : List V) (ns : List Nat) (rs : List Bool), vs = [.ref a, .ref b] ∧ H1 a = some (.lst us) ∧ Vers H1 us ns ∧ Asc ns ∧ SqL K H1 b (rs.map V.bl) ∧ rs.length = ns.length ∧ ns.length ≤ 1000 ∧
  ∀ d, H1 d = none → Q (.ref d) (upd H1 d (.dT (dKv ns rs)))
theorem pe_dictZip {X : Cx} {e e2 : Expr} {ta : TA} {p p2 pos pos2 : Pos} (hc : X.calm = true) (hu : X.A.units + 64 < cLine) (hg : Gl X "dict") (hm : X.mg "dict" = none) (hg2 : Gl X "zip") (hm2 : X.mg "zip" = none) (ha : PA X [e, e2] ta)
    (hs : starEach [e, e2] X.env = (false, eval e X.env) :: starEach [e2] X.env := by rfl) (hpl : (backTo pos2 (starEach [e2] X.env)).any (·.1) = false := by rfl)
    (hs1 : starEach [.Call (.Name "zip" p2) [e, e2] [] pos2] X.env = [(false, eval (.Call (.Name "zip" p2) [e, e2] [] pos2) X.env)] := by rfl) :
    PE X (.Call (.Name "dict" p) [.Call (.Name "zip" p2) [e, e2] [] pos2] [] pos) (tDictZip X.K ta) := by
  refine ⟨fun pins s σ H Q I h => ?_⟩
  refine wpAny_Call_Name_kw (ld_blt I hg hm rfl ?_)
  refine PyProof.Rows.callWith_type1 (Calls.spliced_cons ?_) hs1
  refine Call_ (ld_blt I hg2 hm2 PyProof.Rows.boot_zip (PyProof.Rows.callWith_type1 (thn (ha.run pos2 pins s σ H _ I h) fun us s1 ⟨vs, H1, I1, r1, q1⟩ => ?_) hs hpl))
  obtain ⟨a, b, us1, ns, rs, rfl, hl, hv, as, hb, lr, ln, q⟩ := q1
  cases r1 with
  | cons r rr =>
    cases rr with
    | cons r' rr =>
      cases rr
      cases r
      cases r'
      obtain ⟨its, rv, p1, _⟩ := I1.list (.of hl)
      obtain ⟨its2, rv2, p2, _⟩ := I1.list hb
      have la : a < s1.heap.objs.size := p1.lt
      have lb : b < s1.heap.objs.size := p2.lt
      obtain ⟨ks, rfl, rfl, hk⟩ := addrs_of hv
      have e1 : its = ks.map fun p => Value.ref p.1 := refs_pairs rv
      have e2 : its2 = rs.map Value.bool := Vals.bls rv2
      rw [List.length_map] at lr ln
      have lz : (ks.zip rs).length = ks.length := by rw [List.length_zip]; omega
      refine call_zip_2 p1.isList p2.isList fun h' hz hTI hTO h1 h2 hsz hkp => Calls.spliced_nil ?_
      have PA := PairArg.zip (prog := X.prog) (w := X.w) (s1.heap.objs.size + 4) (s1.heap.objs.size + 2) (s1.heap.objs.size + 3) s1.heap.objs.size (s1.heap.objs.size + 1) a b (PySem.W.ktu_apart s1.heap.objs.size a b la lb) its.toArray its2.toArray
      refine dict_run (tk1 := s1.toks) (ps := (ks.zip rs).map fun q => (kk q.1.2, q.1.1, Value.bool q.2)) I1 hkp (by omega) PA (fun c hc => ?_) ⟨hz, hTI, ⟨_, _, hTO⟩, h1, h2, (let ⟨o, ho, x⟩ := p1.isList; ⟨o, hkp _ _ ho, x⟩), (let ⟨o, ho, x⟩ := p2.isList; ⟨o, hkp _ _ ho, x⟩)⟩ (Paired.ofGet ?_ fun i p z hp hz => ?_) ?_ ⟨?_, fun i key v hi => ?_⟩ ?_ (I1.ok.hd hc) hu q
      · simp only [List.mem_cons, List.not_mem_nil, or_false] at hc
        rcases hc with rfl | rfl | rfl | rfl <;> omega
      · show (((ks.map (·.2)).zip rs).map _).length = _
        rw [List.length_map, List.length_map, List.length_zip, List.length_map, lz]
        omega
      · have hp : (((ks.map (·.2)).zip rs).map fun p => (kk p.1, V.bl p.2))[i]? = some p := hp
        rw [List.getElem?_map] at hp hz
        cases hq : (ks.zip rs)[i]? with
        | none => rw [hq] at hz; cases hz
        | some y =>
          obtain ⟨y1, y2⟩ := y
          obtain ⟨f1, f2⟩ := List.getElem?_zip_eq_some.mp hq
          have hy : ((ks.map (·.2)).zip rs)[i]? = some (y1.2, y2) := List.getElem?_zip_eq_some.mpr ⟨by rw [List.getElem?_map, f1]; rfl, f2⟩
          rw [hq] at hz
          rw [hy] at hp
          cases Option.some.inj hz
          cases Option.some.inj hp
          exact ⟨rfl, (hk y1 (List.mem_of_getElem? f1)).1, rfl⟩
      · rw [dKv_keys (by rw [List.length_map]; exact lr)]
        exact kk_nodup as
      · rw [List.length_map, lz, e1, e2, List.size_toArray, List.size_toArray, List.length_map, List.length_map]
        omega
      · rw [e1, e2, List.getElem?_toArray, List.getElem?_toArray, List.getElem?_map, List.getElem?_map] at hi
        obtain ⟨g1, g2⟩ := hi
        cases f1 : ks[i]? with
        | none => rw [f1] at g1; cases g1
        | some y1 =>
          cases f2 : rs[i]? with
          | none => rw [f2] at g2; cases g2
          | some y2 =>
            rw [f1] at g1
            rw [f2] at g2
            cases Option.some.inj g1
            cases Option.some.inj g2
            have f3 : (ks.zip rs)[i]? = some (y1, y2) := List.getElem?_zip_eq_some.mpr ⟨f1, f2⟩
            exact ⟨kk y1.2, y1.1, by rw [List.getElem?_map, f3]; rfl, rfl⟩
      · show (((ks.map (·.2)).zip rs).map _).length ≤ 1000
        rw [List.length_map, List.length_zip, List.length_map]
        omega
end
end K3

namespace K3
open PySem PySem.Spec PyProof.Rows L2
theorem val_at : ∀ {ns : List Nat} {rs : List Bool} {i p : Nat} {r : Bool}, Asc ns → ns[i]? = some p → rs[i]? = some r → valV (dKv ns rs) (kk p) = some (.bl r)
  | [], _, _, _, _, _, h, _ => by simp at h
  | _ :: _, [], _, _, _, _, _, h => by simp at h
  | n :: ns, b :: rs, 0, p, r, _, h, h' => by
    simp at h h'
    subst h h'
    unfold valV dKv
    simp
  | n :: ns, b :: rs, i + 1, p, r, as, h, h' => by
    obtain ⟨h1, h2⟩ := List.pairwise_cons.mp as
    have h : ns[i]? = some p := by simpa using h
    have hm := h1 p (List.mem_of_getElem? h)
    have ih := val_at (rs := rs) h2 h (by simpa using h')
    have hne : ¬ kk n = kk p := fun e => by
      have := kk_inj e
      omega
    unfold valV dKv at ih ⊢
    rw [List.zip_cons_cons, List.map_cons, List.find?_cons_of_neg (by simpa using hne)]
    exact ih
/-- what a lambda promises that looks a version up -/
def spLook : List (Option V) → Sp := fun ws vs H Q _ => ∃ (d p : Addr) (kvs : List (List Key × V)) (n : Nat) (v : V), ws = [some (.ref d)] ∧ vs = [.ref p] ∧ H d = some (.dT kvs) ∧ H p = some (.tup ((vI n).map V.int)) ∧ valV kvs (kk n) = some v ∧ Q v H
section
variable {P : Program} {w : World} {K : PySem.W.Frag} {mg : Str → Option Value} {base : Heap} {T : Tbl}
/-- _law_range_by, the lambda with its cell -/
def spRangeBy (P : Program) (w : World) (K : PySem.W.Frag) (mg : Str → Option Value) (base : Heap) (T : Tbl) : SpA := fun A outer s vs H Q => ∃ (l f d : Addr) (us : List V) (ns : List Nat) (rs : List Bool) (F : LF) (x : Str), vs = [.ref l, .ref f] ∧ Pts H l us ns 60 ∧ rs.length = ns.length ∧
  H f = some (LamO f F) ∧ H F.c = some (LamX.CodeO F.c F.qual) ∧ LOk P w K mg base CX0 1 f F ["_law_point"] [x] spLook ∧ NdefX.CellsAt F.cl [x] [some (.ref d)] s.heap H ∧ (∀ y c, F.cl.lookup y = some c → c ∉ frs outer) ∧ H d = some (.dT (dKv ns rs)) ∧
  ∀ v H', Go T [] H H' → IsR (Th H') v (rbF [] ns rs) → Q v H'
theorem Go.lam {T : Tbl} {H H1 : Hp} {f : Addr} {F : LF} (g : Go T [] H H1) (h : H f = some (LamO f F)) : H1 f = some (LamO f F) := g.ext f _ (by simp) h fun ps => lamO_ne ps
theorem Go.code {T : Tbl} {H H1 : Hp} {c : Addr} {q : Str} (g : Go T [] H H1) (h : H c = some (LamX.CodeO c q)) : H1 c = some (LamX.CodeO c q) := g.ext c _ (by simp) h fun ps => LamX.codeO_ne ps
theorem Pts.go {T : Tbl} {M : List Addr} {H H1 : Hp} {p : Addr} {us : List V} {ns : List Nat} {k : Nat} (h : Pts H p us ns k) (g : Go T M H H1) (hp : p ∉ M) : Pts H1 p us ns k := ⟨g.lst h.at_ hp, h.vers.go g, h.asc, h.head, h.few⟩
theorem AllS.soft {H : Hp} {vs : List V} {R : Rg} (h : AllS (Th H) vs R) : AllS (SqT K H) vs R := AllS.imp h fun _ _ => SqT.of
theorem ok_l_range_by (G : Glo K mg) (D : Top K mg "_law_range_by" s_l_range_by) : DefA P w K mg base 3 "_law_range_by" ["_law_points_here", "_law_is_told"] (spRangeBy P w K mg base T) := by
  refine defA_of D sc_l_range_by bd_l_range_by (fun A outer s vs H Q ⟨_, _, _, _, _, _, _, _, e, _⟩ => by rw [e]; rfl) ?_
  rintro f' cdv A outer s H vs Q hr ⟨l, f, d, us, ns, rs, F, x, rfl, hpt, lr, hf, hcF, Fn, C, nf, hd, qq⟩
  refine ⟨_, pss_cons (ps_set (i := 2) sc_l_range_by.nd rfl (.inl rfl) (pe_lst pa_nil))
    (pss_cons (ps_forW PassesOwn.never (pi_enum (by rfl) (G.free "enumerate" (by decide +kernel)) (pa_cons (pv 0) pa_nil)) (pgT K 2 (pgs_cons (pg_name (i := 3) sc_l_range_by.nd rfl (.inl rfl)) (pgs_cons (pg_name (i := 4) sc_l_range_by.nd rfl (.inl rfl)) pgs_nil)))
      (Evl.pss_cut (ps_set (i := 5) sc_l_range_by.nd rfl (.inl rfl) (pe_ifExp (pt_cmpR op_lt (pe_op op_add (pv 3) pe_int) (pe_callB (lenK K) (by rfl) (G.free "len" (by decide +kernel)) rfl (pa_cons (pv 0) pa_nil)) (nomark _)) (peIx (ixL K) (pv 0) (pe_op op_add (pv 3) pe_int)) pe_non))
      (pss_one (ps_if (pt_val (pe_callM (i := 1) Fn hr (by decide) pass0 C nf rfl rfl (.inl rfl) (pa_cons (pv 4) pa_nil)))
        (pss_one (ps_if (PW.pt (pw_and (pt_cmpR (neD K hr.units) (pv 2) (pe_lst pa_nil) (nomark _)) (pw_and1 (pt_cmpR (eqD K hr.units) (peT K (peM K (pv 2))) (pv 4) (nomark _)))))
          (pss_one (ps_asg (pe_tup (pa_cons (peT K (peM K (pv 2))) (pa_cons (pv 5) pa_nil))) (pg_sub (pv 2) (pe_un un_neg pe_int) set_list)))
          (pss_one (ps_expr (pe_bm PySem.F.plainAttrs_list PySem.F.slot_list_append PySem.F.type_list_append mt_append (pv 2) (pa_cons (pe_tup (pa_cons (pv 4) (pa_cons (pv 5) pa_nil))) pa_nil)))))) pss_nil))))
    (pss_one (ps_ret (pe_callTy (tupK K) (by rfl) (G.free "tuple" (by decide +kernel)) rfl (pa_cons (pv 2) pa_nil))))), ?_⟩
  refine ⟨by decide, fun q hq => ?_⟩
  have g0 := Go.new (T := T) (M := []) (o := .lst []) hq
  have hls : us.length = ns.length := (Paired.lenEq hpt.vers).symm
  have few := hpt.few
  refine ⟨.ref l, rfl, l, us, rfl, .of (g0.lst hpt.at_), ?_⟩
  let Pv : Nat → L2.St → Hp → Prop := fun i σ H' => Go T [] H H' ∧ ∃ (acc : List V) (y3 y4 y5 : Option V) (AA : Rg), σ = [some (.ref l), some (.ref f), some (.ref q), y3, y4, y5] ∧ H' q = some (.lst acc) ∧ AllS (Th H') acc AA ∧ AA.length ≤ i ∧ rbF AA (ns.drop i) (rs.drop i) = rbF [] ns rs
  refine for_go (T := T) (it_enum (xs := us)) Pv ⟨g0, [], none, none, none, [], rfl, upd_same, .nil, Nat.le_refl _, by simp⟩ (fun i σ H' _ h => .of (h.1.lst hpt.at_)) ?_ ?_
  · rintro i x σ H1 H2 hi ⟨g1, acc, y3, y4, y5, AA, rfl, hq1, aA, lA, eA⟩ g2 ⟨t, pv, rfl, ht, hx⟩
    have g12 := g1.trans g2
    have hq2 := g2.lst hq1
    have aA2 := aA.goH g2
    have la := AllS.len aA
    have hni : i < ns.length := by omega
    have hri : i < rs.length := by omega
    have hn : ns[i]? = some ns[i] := List.getElem?_eq_getElem hni
    have hr2 : rs[i]? = some rs[i] := List.getElem?_eq_getElem hri
    have iv := (Paired.all (Paired.flip hpt.vers) i ns[i] pv hn hx).goH g12
    have iv' := iv
    obtain ⟨pa, rfl, tpa, hpa⟩ := iv'
    have hl2 := g12.lst hpt.at_
    refine ⟨t, _, rfl, .of ht, rfl, _, _, rfl, _, _, rfl, rfl, ?_⟩
    have hdn : ns.drop i = ns[i] :: ns.drop (i + 1) := List.drop_eq_getElem_cons hni
    have hdr : rs.drop i = rs[i] :: rs.drop (i + 1) := List.drop_eq_getElem_cons hri
    have eS : rbF (rbS AA ns[i] ns[i + 1]? rs[i]) (ns.drop (i + 1)) (rs.drop (i + 1)) = rbF [] ns rs := by
      rw [hdn, hdr] at eA
      have e : (ns.drop (i + 1)).head? = ns[i + 1]? := by simp
      rw [← e]
      exact eA
    refine ⟨fun σ' H' => H' = H2 ∧ ∃ hv, σ' = [some (.ref l), some (.ref f), some (.ref q), some (.int (i : Int)), some (.ref pa), some hv] ∧ IsE (Th H2) hv ns[i + 1]?, ?_, ?_⟩
    · refine ⟨_, rfl, (i : Int), 1, rfl, rfl, .ref l, rfl, .ref l, us.length, rfl, .inl ⟨us, .of hl2, rfl⟩, _, _, rfl, rfl, _, rfl, ?_⟩
      by_cases hlt : i + 1 < us.length
      · rw [decide_eq_true (by omega)]
        have hx1 : us[i + 1]? = some us[i + 1] := List.getElem?_eq_getElem hlt
        have hn1 : ns[i + 1]? = some ns[i + 1] := List.getElem?_eq_getElem (by omega)
        have iv1 := (Paired.all (Paired.flip hpt.vers) (i + 1) _ _ hn1 hx1).goH g12
        refine iteT ⟨.ref l, rfl, _, rfl, (i : Int), 1, rfl, rfl, l, us, (i : Int) + 1, us[i + 1], rfl, rfl, .of hl2, ?_, rfl, _, rfl, by rw [hn1]; exact iv1⟩
        have e : (i : Int) + 1 = ((i + 1 : Nat) : Int) := by omega
        rw [e]
        exact atN hx1
      · rw [decide_eq_false (by omega)]
        refine iteF ⟨rfl, _, rfl, ?_⟩
        rw [List.getElem?_eq_none (by omega)]
        rfl
    · rintro σ' H' ⟨rfl, hv, rfl, ihv⟩
      have fin : ∀ (H6 : Hp) (acc' : List V) (A' : Rg), Go T [] H' H6 → H6 q = some (.lst acc) → acc'.length ≤ i + 1 → AllS (Th H6) acc' A' → A' = rbS AA ns[i] ns[i + 1]? rs[i] → Pv (i + 1) [some (.ref l), some (.ref f), some (.ref q), some (.int (i : Int)), some (.ref pa), some hv] (upd H6 q (.lst acc')) := fun H6 acc' A' g6 hq6 hl a' e' => by
        have gw : Go T [q] H6 (upd H6 q (.lst acc')) := Go.wr (by simp) hq6
        refine ⟨(g12.trans g6).mut hq hq6, acc', _, _, _, A', rfl, upd_same, a'.goH gw, ?_, by rw [e']; exact eS⟩
        rw [← AllS.len a']
        exact hl
      refine ⟨rfl, g12.lam hf, _, rfl, g12.lam hf, g12.code hcF, d, pa, dKv ns rs, ns[i], .bl rs[i], rfl, rfl, g12.dt hd, tpa, val_at hpt.asc hn hr2, _, rfl, ?_⟩
      cases hb : rs[i] with
      | false =>
        refine iteF ⟨g12, acc, _, _, _, AA, rfl, hq2, aA2, by omega, ?_⟩
        rw [hb] at eS
        exact eS
      | true =>
        rw [hb] at fin
        have app : rbS AA ns[i] ns[i + 1]? true = AA ++ [(ns[i], ns[i + 1]?)] → ∀ H6, Go T [] H' H6 → ∀ dd, H6 dd = none → Pv (i + 1) [some (.ref l), some (.ref f), some (.ref q), some (.int (i : Int)), some (.ref pa), some hv] (upd (upd H6 dd (.tup [.ref pa, hv])) q (.lst (acc ++ [.ref dd]))) := fun hu H6 g6 dd hdd => by
          have gd : Go T [] H6 (upd H6 dd (.tup [.ref pa, hv])) := Go.new hdd
          exact fin _ _ (AA ++ [(ns[i], ns[i + 1]?)]) (g6.trans gd) ((g6.trans gd).lst hq2) (by rw [List.length_append, List.length_singleton]; omega) (AllS.app ((aA2.goH g6).goH gd) (.cons ⟨dd, _, _, rfl, upd_same, (iv.goH g6).goH gd, (ihv.goH g6).goH gd⟩ .nil)) hu.symm
        refine iteT ⟨.ref q, rfl, by decide, fun ce hce => ⟨lstD AA, lstD [], ?_, .lst (.of upd_same) .nil, shaped_lst _, shaped_lst _, _, rfl, ?_⟩⟩
        · exact AllS.lstDp (.of ((Go.new (T := T) (M := []) hce).lst hq2)) (AllS.soft (aA2.goH (Go.new (T := T) (M := []) hce)))
        have g6 : Go T [] H' (upd H' ce (.lst [])) := Go.new hce
        have hq6 := g6.lst hq2
        rw [lstD_nil]
        by_cases hA : AA = []
        · rw [decide_eq_true hA]
          refine iteF (iteF ⟨.ref q, rfl, tyL hq6, .ref pa, rfl, hv, rfl, by show 2 ≤ sizeLine; decide, fun dd hdd => ⟨q, acc, .ref dd, rfl, rfl, (Go.new (T := T) (M := []) hdd).lst hq6, by rw [sizeLine_eq]; omega, app ?_ _ g6 dd hdd⟩⟩)
          rw [hA]
          rfl
        · rw [decide_eq_false hA]
          have hacc : acc ≠ [] := fun z => hA (by
            subst z
            cases aA2
            rfl)
          obtain ⟨acc', lst, rfl⟩ : ∃ acc' l, acc = acc' ++ [l] := by
            rcases List.eq_nil_or_concat acc with z | ⟨l, x, z⟩
            · exact absurd z hacc
            · exact ⟨l, x, by rw [z, List.concat_eq_append]⟩
          obtain ⟨A', ⟨la1, le1⟩, rfl, aA', iL⟩ := AllS.snocInv (aA2.goH g6)
          obtain ⟨pl, va, vl, rfl, tl, ia, il⟩ := iL
          have hu : rbS (A' ++ [(la1, le1)]) ns[i] ns[i + 1]? true = match le1 with | some h => if h = ns[i] then A' ++ [(la1, ns[i + 1]?)] else A' ++ [(la1, le1)] ++ [(ns[i], ns[i + 1]?)] | none => A' ++ [(la1, le1)] ++ [(ns[i], ns[i + 1]?)] := by
            unfold rbS
            rw [if_pos rfl, List.getLast?_concat]
            cases le1 with
            | none => rfl
            | some h => simp only [List.dropLast_concat]
          refine iteT (last1 rfl hq6 (.of tl) ⟨.ref pa, rfl, endD le1, verD ns[i], (IsE.imp il fun _ _ => SqT.of).dp, (IsV.soft (iv.goH g6)).dp, shaped_end _, shaped_ver _, _, rfl, ?_⟩)
          have ee : PyData.eqv (endD le1) (verD ns[i]) = decide (le1 = some ns[i]) := endD_eqv (o' := some ns[i])
          rw [ee]
          by_cases hl1 : le1 = some ns[i]
          · rw [decide_eq_true hl1]
            subst hl1
            simp only [if_true] at hu
            refine iteT (last0 rfl hq6 (.of tl) ⟨hv, rfl, by show 2 ≤ sizeLine; decide, fun dd hdd => ⟨.ref q, rfl, 1, rfl, q, _, -1, _, rfl, rfl, (Go.new (T := T) (M := []) hdd).lst hq6, ixL1 _ _, ?_⟩⟩)
            rw [setL1]
            have gd : Go T [] (upd H' ce (.lst [])) (upd (upd H' ce (.lst [])) dd (.tup [va, hv])) := Go.new hdd
            refine fin _ _ (A' ++ [(la1, ns[i + 1]?)]) (g6.trans gd) (gd.lst hq6) ?_ (AllS.app (aA'.goH gd) (.cons ⟨dd, va, hv, rfl, upd_same, ia.goH gd, (ihv.goH g6).goH gd⟩ .nil)) hu.symm
            rw [List.length_append, List.length_singleton] at la ⊢
            omega
          · rw [decide_eq_false hl1]
            have hu2 : rbS (A' ++ [(la1, le1)]) ns[i] ns[i + 1]? true = A' ++ [(la1, le1)] ++ [(ns[i], ns[i + 1]?)] := by
              rw [hu]
              cases le1 with
              | none => rfl
              | some h =>
                simp only
                rw [if_neg fun z => hl1 (by rw [z])]
            exact iteF ⟨.ref q, rfl, tyL hq6, .ref pa, rfl, hv, rfl, by show 2 ≤ sizeLine; decide, fun dd hdd => ⟨q, _, .ref dd, rfl, rfl, (Go.new (T := T) (M := []) hdd).lst hq6, by rw [sizeLine_eq]; omega, app hu2 _ g6 dd hdd⟩⟩
  · rintro σ H1 ⟨g1, acc, y3, y4, y5, AA, rfl, hq1, aA, lA, eA⟩
    have e1 : ns.drop us.length = [] := List.drop_eq_nil_of_le (by omega)
    rw [e1] at eA
    have e2 : AA = rbF [] ns rs := by
      rw [← eA]
      cases AA <;> rfl
    refine ⟨.ref q, rfl, q, acc, rfl, .inl ⟨.of hq1, fun c hc => ?_⟩⟩
    have g2 := Go.new (T := T) (M := []) (o := .tup acc) hc
    exact qq _ _ (g1.trans g2) ⟨c, acc, rfl, upd_same, by rw [← e2]; exact aA.goH g2⟩
end
end K3

namespace K3
open PySem PySem.Spec PyProof.Rows L2
/-- lambda _law_point: x[_law_point] -/
def mkD (q : Str) (lam : Expr) (cl : List (Str × Addr)) (c' : Addr) : LF := ⟨q, lamArgs lam, lamBody lam, lamScope lam, cl, c'⟩
def anyLam : Expr := match (defBody s_l_any_range).getD 3 (.Pass ⟨0, 0, 0, 0⟩) with
  | .Return (some (.Subscript (.Call _ (_ :: lam :: _) _ _) _ _)) _ => lam
  | _ => .Constant .none 0 ⟨0, 0, 0, 0⟩
theorem can_take : ∀ {R : Rg} {b : Nat} (k : Nat), Can b R → Can b (R.take k)
  | [], _, k, _ => by simp [Can]
  | _ :: _, _, 0, _ => trivial
  | (l, none) :: r, b, k + 1, c => by
    obtain ⟨h, rfl⟩ := c
    rw [List.take_succ_cons, List.take_nil]
    exact ⟨h, rfl⟩
  | (l, some e) :: r, b, k + 1, c => by
    obtain ⟨h1, h2, h3⟩ := c
    rw [List.take_succ_cons]
    exact ⟨h1, h2, can_take k h3⟩
theorem AllS.take {Tp : TP} {vs : List V} {R : Rg} (k : Nat) (h : AllS Tp vs R) : AllS Tp (vs.take k) (R.take k) := paired_take k h
/-- the truths of the pairs -/
theorem truths_of {H : Hp} {ns : List Nat} {ys : List V} (pr : Paired (fun (i : Nat) y => ∃ (n : Nat) (r : Bool) (a b : Addr), ns[i]? = some n ∧ y = V.ref a ∧ H a = some (.tup [.ref b, .bl r]) ∧ H b = some (.tup ((vI n).map V.int))) (List.range ns.length) ys) :
    ∃ rs : List Bool, rs.length = ns.length ∧ Paired (fun t (p : Nat × Bool) => ∃ a b, t = V.ref a ∧ H a = some (.tup [.ref b, .bl p.2]) ∧ H b = some (.tup ((vI p.1).map V.int))) ys (ns.zip rs) := by
  have hl := Paired.lenEq pr
  rw [List.length_range] at hl
  have ex : ∀ i : Nat, ∃ r : Bool, ∀ y, ys[i]? = some y → ∃ (n : Nat) (a b : Addr), ns[i]? = some n ∧ y = V.ref a ∧ H a = some (.tup [.ref b, .bl r]) ∧ H b = some (.tup ((vI n).map V.int)) := fun i => by
    cases hy : ys[i]? with
    | none => exact ⟨false, fun y e => by cases e⟩
    | some y =>
      have hi : i < ns.length := by
        rw [← hl]
        exact (List.getElem?_eq_some_iff.mp hy).1
      obtain ⟨n, r, a, b, h⟩ := Paired.all pr i i y (by rw [List.getElem?_range hi]) hy
      exact ⟨r, fun y' e => by cases e; exact ⟨n, a, b, h⟩⟩
  obtain ⟨f, hf⟩ := Classical.axiomOfChoice ex
  refine ⟨(List.range ns.length).map f, by simp, Paired.ofGet (by simp [hl]) fun i y p hy hp => ?_⟩
  obtain ⟨p1, p2⟩ := p
  obtain ⟨h1, h2⟩ := List.getElem?_zip_eq_some.mp hp
  obtain ⟨n, a, b, e1, e2, e3, e4⟩ := hf i y hy
  have hi : i < ns.length := (List.getElem?_eq_some_iff.mp h1).1
  rw [List.getElem?_map, List.getElem?_range hi] at h2
  cases Option.some.inj h2
  rw [h1] at e1
  cases e1
  exact ⟨a, b, e2, e3, e4⟩
section
variable {P : Program} {w : World} {K : PySem.W.Frag} {mg : Str → Option Value} {base : Heap} {T : Tbl} {tb : Addr}
theorem look_ok (q x : Str) (lam : Expr) (cl : List (Str × Addr)) (f c' : Addr) (S : NdefX.NScope ["_law_point", x] ["_law_point"] [x] (lamScope lam)) (hb : ∀ (pm ctv : Value) (us : List Value), us.length = 1 → bindArgs ((mkD q lam cl c').fd pm ctv) ⟨us, []⟩ = pure ((["_law_point"] : List Str).zip us))
    (hbody : ∀ (A : Around) (outer : List Env) (s : Shared) (H : Hp), Room 0 (A.deeper (envL (mkD q lam cl c') f s.heap.objs.size)) → PE (lcx CX0 P w K mg base ["_law_point", x] (mkD q lam cl c') f A outer s H E0) (lamBody lam) (tDGet (tVar 1) (tVar 0))) :
    LOk P w K mg base CX0 1 f (mkD q lam cl c') ["_law_point"] [x] spLook := by
  refine lok_of (N := ["_law_point", x]) S hb (fun ws vs H Q E ⟨_, _, _, _, _, _, e, _⟩ => by rw [e]; rfl) ?_
  rintro A outer s H vs ws Q E hr hw ⟨d, p, kvs, n, v, rfl, rfl, hd, hp, hv, q⟩
  exact ⟨_, hbody A outer s H hr, .ref d, rfl, .ref p, rfl, d, v, rfl, by rw [← hv]; exact DGet.t hd hp, q⟩
theorem anyLam_ok (cl : List (Str × Addr)) (f c' : Addr) : LOk P w K mg base CX0 1 f (mkD (lamQ "_law_any_range") anyLam cl c') ["_law_point"] ["_law_told"] spLook :=
  look_ok _ _ _ _ _ _ (NdefX.nscope_by (show NdefX.nscB ["_law_point", "_law_told"] ["_law_point"] ["_law_told"] (lamScope anyLam) = true by decide +kernel)) (fun pm ctv us h => match us, h with | [_], _ => rfl)
    fun A outer s H hr => pe_dget (hu_of hr) (pv 1) (pv 0) (fun _ _ => rfl)
def spAnyRange (T : Tbl) : Sp := fun vs H Q _ => ∃ (B C l : Addr) (us : List V) (ns : List Nat), vs = [.ref B, .ref l] ∧ IsBag H B C ∧ H l = some (.lst us) ∧ l ≠ B ∧ Vers H us ns ∧ us.length ≤ 6 ∧ LamX.Tabs T H ∧
  ∀ v R H', Go T [B] H H' → IsBag H' B C → IsR (Th H') v R → Can 0 R → R.length ≤ 6 → Q v H'
theorem ok_l_any_range (G : Glo K mg) (D : TopT K mg base "_law_any_range" s_l_any_range tb) (TI : TabIn T tb (lamQ "_law_any_range")) (D1 : DefF P w K mg base 1 "_law_take" ["_law_bag_here", "_law_many"] (spTake T)) (D2 : DefF P w K mg base 2 "_law_one" ["_law_bag_here", "_law_things"] (spOne T))
    (D3 : DefF P w K mg base 2 "_law_near_points" ["_law_versions_here"] (spNear T)) (D4 : DefA P w K mg base 3 "_law_range_by" ["_law_points_here", "_law_is_told"] (spRangeBy P w K mg base T)) : DefF P w K mg base 4 "_law_any_range" ["_law_bag_here", "_law_versions_here"] (spAnyRange T) := by
  refine defT_of D sc_l_any_range bd_l_any_range (fun vs H Q E ⟨_, _, _, _, _, e, _⟩ => by rw [e]; rfl) ?_
  rintro f_ cc A outer s H vs Q E TB hr ⟨B, C, l, us, ns, rfl, hb, hl, hlB, hv, ln, tabs, qq⟩
  have gd := G.free "dict" (by decide +kernel)
  have hfree : ∀ y ∈ (lamScope anyLam).names, y.2 = .free → (defScope s_l_any_range).names.lookup y.1 = some .cell ∨ (defScope s_l_any_range).names.lookup y.1 = some .free := by
    intro y hy e
    have hy : y ∈ ([("_law_point", .local), ("_law_told", .free)] : List (Str × NameKind)) := hy
    rcases List.mem_cons.mp hy with rfl | hy
    · cases e
    · rw [List.mem_singleton.mp hy]
      exact .inl rfl
  refine ⟨_, pss_cons (ps_par (i := 2) (j := 3) rfl sc_l_any_range.nd rfl rfl (by decide) rfl rfl (pa_cons (pe_D D3 (hr.mono (by decide)) (by rfl) (pa_cons (pv 1) pa_nil)) (pa_cons (pe_D D1 (hr.mono (by decide)) (by rfl) (pa_cons (pv 0) (pa_cons pe_int pa_nil))) pa_nil)) (by rfl))
    (pss_cons (ps_if (pt_cmpR op_eq (pv 3) pe_int (nomark _)) (pss_one (ps_ret (pe_D D2 (hr.mono (by decide)) (by rfl) (pa_cons (pv 0) (pa_cons (pe_lst (pa_cons (pe_tup pa_nil) (pa_cons (pe_tup (pa_cons (pe_tup (pa_cons (pe_tup (pa_cons pe_int (pa_cons pe_int (pa_cons pe_int pa_nil)))) (pa_cons pe_non pa_nil))) pa_nil)) pa_nil))) pa_nil))))) pss_nil)
    (pss_cons (ps_set (i := 4) sc_l_any_range.nd rfl (.inr rfl) (pe_callTy (call_dictL rfl hr.units) (by rfl) gd rfl (pa_cons (pe_lcW (own := [("_law_point", 5)]) sc_l_any_range.nd (blkOk_by (N := n_l_any_range) (sc := defScope s_l_any_range) (by decide +kernel)) (pi_list (pv 2))
      (fun s' H' C cl fp => pg_name (i := 5) sc_l_any_range.nd rfl (.inl rfl)) (fun s' H' C cl fp => pts_nil) (fun s' H' C cl fp => pe_tup (pa_cons (pv 5) (pa_cons (pe_cmpR op_eq (pe_D D1 (hr.mono (by decide)) (by rfl) (pa_cons (pv 0) (pa_cons pe_int pa_nil))) pe_int (nomark _)) pa_nil)))) pa_nil)))
    (pss_one (ps_ret (pe_slice (slT K) (pe_DA D4 hr (by rfl)
        (sp' := fun σ vs H Q => ∃ (l f d : Addr) (us : List V) (ns : List Nat) (rs : List Bool) (c' : Addr), vs = [.ref l, .ref f] ∧ Pts H l us ns 60 ∧ rs.length = ns.length ∧ σ[4]? = some (some (.ref d)) ∧ H d = some (.dT (dKv ns rs)) ∧
          H f = some (LamO f (mkD (lamQ "_law_any_range") anyLam (cloFrom (envOfC "_law_any_range" (defScope s_l_any_range) s.heap.objs.size f_ (.ref cc)).cells (lamScope anyLam).names []) c')) ∧ H c' = some (LamX.CodeO c' (lamQ "_law_any_range")) ∧ ∀ v H', Go T [] H H' → IsR (Th H') v (rbF [] ns rs) → Q v H')
        (fun pins σ s1 vs H1 Q1 I ⟨l, f, d, us, ns, rs, c', e1, e2, e3, e4, e5, e6, e7, e8⟩ => ?_)
        (pa_cons (pv 2) (pa_cons (pe_lam TB rfl TI.mem TI.one rfl hfree) pa_nil))) po_none (po_some pe_int)))))), ?_⟩
  · have caps : NdefX.Caps (cxOf CX0 P w K mg base n_l_any_range "_law_any_range" (defScope s_l_any_range) f_ (.ref cc) A outer s H E).nox (cloFrom (envOfC "_law_any_range" (defScope s_l_any_range) s.heap.objs.size f_ (.ref cc)).cells (lamScope anyLam).names []) ["_law_told"] [4] :=
      NdefX.Caps.made I.ok hfree (fun y hy => by
        rw [List.mem_singleton.mp hy]
        show (Str.ofString "_law_told", NameKind.free) ∈ ([("_law_point", .local), ("_law_told", .free)] : List (Str × NameKind))
        simp) rfl
    refine ⟨l, f, d, us, ns, rs, _, "_law_told", e1, e2, e3, e6, e7, anyLam_ok _ _ _, ?_, fun y c hy => cell_nofs I (caps.sub y c hy) rfl, e5, e8⟩
    have h1 := NdefX.cells_of I caps
    rw [List.map_cons, NdefX.slotAt_of e4] at h1
    exact h1
  refine ⟨.ref l, rfl, l, us, ns, rfl, hl, hv, ln, fun p us' ns' H1 g1 np hpt => ⟨.ref B, rfl, B, C, 6, rfl, hb.go g1, by omega, by omega, fun way H2 hw g2 b2 => ⟨_, _, rfl, ?_⟩⟩⟩
  obtain ⟨hpB, hpC⟩ := bag_apart hb np
  have hpt2 := hpt.go g2 (by simpa using hpB)
  have g12 := g1.goB.trans g2
  have tabs2 := g12.tabs tabs
  refine ⟨_, rfl, rfl, decide (V.int (way : Int) = V.int 0), rfl, ?_⟩
  by_cases h0 : V.int (way : Int) = V.int 0
  · rw [decide_eq_true h0]
    refine iteT ⟨.ref B, rfl, by decide, fun t0 ht0 => ⟨by show 3 ≤ sizeLine; decide, fun t1 ht1 => ⟨by show 2 ≤ sizeLine; decide, fun t2 ht2 => ⟨by show 1 ≤ sizeLine; decide, fun t3 ht3 => ?_⟩⟩⟩⟩
    have m0 := Go.new (T := T) (M := []) (o := .tup []) ht0
    have m1 := Go.new (T := T) (M := []) (o := .tup [V.int 0, V.int 0, V.int 0]) ht1
    have m2 := Go.new (T := T) (M := []) (o := .tup [V.ref t1, .non]) ht2
    have m3 := Go.new (T := T) (M := []) (o := .tup [V.ref t2]) ht3
    have mm := ((m0.trans m1).trans m2).trans m3
    refine one_of (b2.go mm) (by show 1 ≤ 2; decide) (by show 2 ≤ 1000; decide) fun j x H3 hj g3 b3 => ?_
    have gall := (g12.trans mm.goB).trans g3
    match j, hj with
    | 0, hj =>
      obtain rfl : V.ref t0 = x := Option.some.inj hj
      exact qq _ [] _ gall b3 ⟨t0, [], rfl, g3.tup _ _ (m3.tup _ _ (m2.tup _ _ (m1.tup _ _ upd_same))), .nil⟩ trivial (by decide)
    | 1, hj =>
      obtain rfl : V.ref t3 = x := Option.some.inj hj
      exact qq _ [(0, none)] _ gall b3 ⟨t3, _, rfl, g3.tup _ _ upd_same, .cons ⟨t2, _, _, rfl, g3.tup _ _ (m3.tup _ _ upd_same), ⟨t1, rfl, g3.tup _ _ (m3.tup _ _ (m2.tup _ _ upd_same)), by decide⟩, rfl⟩ .nil⟩ ⟨Nat.le_refl _, rfl⟩ (by decide)
  · rw [decide_eq_false h0]
    have lus : us'.length = ns'.length := (Paired.lenEq hpt.vers).symm
    have few := hpt.few
    refine iteF ⟨.ref p, rfl, p, rfl, ⟨_, .of hpt2.at_⟩, ?_⟩
    refine lc_bag (T := T) (B := B) (C := C) (it_lst (xs := us')) (fun i y H' => ∃ (n : Nat) (r : Bool) (a b : Addr), ns'[i]? = some n ∧ y = V.ref a ∧ H' a = some (.tup [.ref b, .bl r]) ∧ H' b = some (.tup ((vI n).map V.int))) (by rw [sizeLine_eq]; omega) b2
      (fun q H' hq g => .of (g.lst hpt2.at_ (by
        simp only [List.mem_cons, List.not_mem_nil, or_false, not_or]
        refine ⟨?_, hpB⟩
        rintro rfl
        rw [hpt2.at_] at hq
        cases hq))) (fun i y q H' H'' g h => by obtain ⟨n, r, a, b, e1, e2, e3, e4⟩ := h; exact ⟨n, r, a, b, e1, e2, g.tup _ _ e3, g.tup _ _ e4⟩) (fun i x H' Kc Kn hi g bb it kc => ?_) fun q ys H3 hq g3 b3 hl3 pr => ?_
    · have hn : ns'[i]? = some (ns'[i]'(by omega)) := List.getElem?_eq_getElem (by omega)
      have iv := (Paired.all (Paired.flip hpt2.vers) i _ x hn it).goH g
      obtain ⟨b, rfl, tb, hb'⟩ := iv
      refine ⟨rfl, lc_yes ⟨_, rfl, .ref B, rfl, B, C, 2, rfl, bb, by omega, by omega, fun v H4 hv4 g4 b4 => ⟨rfl, by show 2 ≤ sizeLine; decide, fun a ha => ?_⟩⟩⟩
      have m := Go.new (T := T) (M := []) (o := .tup [V.ref b, .bl (decide (V.int (v : Int) = V.int 0))]) ha
      exact kc _ _ (g4.trans m.goB) (b4.go m) ⟨_, _, a, b, hn, rfl, upd_same, m.tup _ _ (g4.tup _ _ tb)⟩
    · rw [lus] at pr
      obtain ⟨rs, lr, prs⟩ := truths_of pr
      have hpt3 := hpt2.go g3 (by simpa using hpB)
      refine ⟨q, ys, ns', rs, rfl, hl3, hpt.asc, lr, by omega, prs, fun d hd => ?_⟩
      have m4 := Go.new (T := T) (M := []) (o := .dT (dKv ns' rs)) hd
      have g13 := (g12.trans g3).trans m4.goB
      refine ⟨.ref p, rfl, m4.tabs (g3.tabs tabs2), fun fl c' H5 g5 nfl lf cf => ?_⟩
      have hpt5 := (hpt3.go m4 (by simp)).go g5 (by simp)
      refine ⟨p, fl, d, us', ns', rs, c', rfl, ⟨hpt5.at_, hpt5.vers, hpt5.asc, hpt5.head, by have := hpt5.few; omega⟩, lr, rfl, g5.dt upd_same, lf, cf, fun v H6 g6 hv6 => ?_⟩
      obtain ⟨pr6, vs6, rfl, hp6, av6⟩ := hv6
      have cR := (rbF_ok lr hpt.asc hpt.head).1
      have gall := (g13.trans g5.goB).trans g6.goB
      have ball := ((b3.go m4).go g5).go g6
      have l6 := AllS.len av6
      refine ⟨6, rfl, pr6, vs6, rfl, .of hp6, fun hw => ?_, fun hw p7 hp7 => ?_⟩
      · have h6 : vs6.length ≤ 6 := by
          obtain ⟨_, h2⟩ := hw
          have e : HT.sIx vs6.length vs6.length (some 6) = min 6 vs6.length := by simp [HT.sIx]
          rw [e] at h2
          omega
        exact qq _ (rbF [] ns' rs) _ gall ball ⟨pr6, vs6, rfl, hp6, av6⟩ cR (by omega)
      · have m7 := Go.new (T := T) (M := []) (o := .tup (cutV vs6 none (some 6))) hp7
        refine qq _ ((rbF [] ns' rs).take 6) _ (gall.trans m7.goB) (ball.go m7) ⟨p7, _, rfl, upd_same, ?_⟩ (can_take 6 cR) (by rw [List.length_take]; omega)
        rw [cut6] at m7 ⊢
        exact AllS.goH (AllS.take 6 av6) m7
end
end K3

namespace K3
open PySem PySem.Spec PyProof.Rows L2
theorem vle (n m : Nat) : Ob.lexAt (fun j => decide ((vI n).getD j 0 = (vI m).getD j 0)) (fun j => decide ((vI n).getD j 0 ≤ (vI m).getD j 0)) (decide ((vI n).length ≤ (vI m).length)) 0 (min (vI n).length (vI m).length) = decide (n ≤ m) := by
  have h1 := ver_parts n
  have h2 := ver_parts m
  show Ob.lexAt _ _ _ 0 3 = _
  rw [Ob.lexAt_succ, Ob.lexAt_succ, Ob.lexAt_succ, Ob.lexAt_zero]
  show (if decide (VA n = VA m) = true then (if decide (VB n = VB m) = true then (if decide (VC n = VC m) = true then decide (3 ≤ 3) else decide (VC n ≤ VC m)) else decide (VB n ≤ VB m)) else decide (VA n ≤ VA m)) = _
  simp only [VA, VB, VC, decide_eq_true_eq]
  split
  · split
    · split
      · rw [decide_eq_decide]
        omega
      · rw [decide_eq_decide]
        omega
    · rw [decide_eq_decide]
      omega
  · rw [decide_eq_decide]
    omega
/-- a list of ones as data -/
def onesD (k : Nat) : PyData := .list (List.replicate k (.int 1))
theorem ones_can : ∀ k : Nat, PyData.canLayAll0 (List.replicate k (.int 1)) = true
  | 0 => rfl
  | k + 1 => by
    have e : PyData.canLayAll0 (List.replicate (k + 1) (.int 1)) = ((PyData.int 1).canLay0 && PyData.canLayAll0 (List.replicate k (.int 1))) := rfl
    rw [e, ones_can k]
    rfl
theorem ones_depth : ∀ k : Nat, PyData.depthAll (List.replicate k (.int 1)) = 0
  | 0 => rfl
  | k + 1 => by
    have e : PyData.depthAll (List.replicate (k + 1) (.int 1)) = max (PyData.int 1).depth (PyData.depthAll (List.replicate k (.int 1))) := rfl
    rw [e, ones_depth k]
    rfl
theorem shaped_ones (k : Nat) : SeqAt.shaped (onesD k) = true := shaped_of (ones_can k) (by
  have e : (onesD k).depth = PyData.depthAll (List.replicate k (.int 1)) + 1 := rfl
  rw [e, ones_depth]
  decide)
theorem ones_nil (k : Nat) : PyData.eqv (onesD k) (onesD 0) = decide (k = 0) := by
  cases k with
  | zero => rfl
  | succ k => rfl
theorem ones_dp {K : PySem.W.Frag} {H : Hp} : ∀ k : Nat, DpAll K H (List.replicate k (.int 1)) (List.replicate k (.int 1))
  | 0 => .nil
  | k + 1 => .cons (.int 1) (ones_dp k)
theorem ones_of {l : List Nat} {ys : List V} (pr : Paired (fun _ y => y = V.int 1) l ys) : ys = List.replicate l.length (.int 1) := by
  rw [Paired.isMap (f := fun _ => V.int 1) pr]
  exact List.map_const' ..
theorem some_kept {n : Nat} {f : Nat → Bool} : ((List.range n).filter f).length = 0 ↔ (List.range n).any f = false := by
  rw [List.length_eq_zero_iff, List.filter_eq_nil_iff]
  simp
theorem range_any {α : Type} (p : α → Bool) (l : List α) : (List.range l.length).any (fun i => match l[i]? with | some s => p s | none => false) = l.any p := by
  induction l with
  | nil => rfl
  | cons x l ih =>
    rw [List.length_cons, List.range_succ_eq_map, List.any_cons, List.any_map, List.any_cons, ← ih]
    rfl
section
variable {P : Program} {w : World} {K : PySem.W.Frag} {mg : Str → Option Value} {base : Heap} {T : Tbl}
def spIsIn (T : Tbl) (K : PySem.W.Frag) : Sp := fun vs H Q _ => ∃ v u R n, vs = [v, u] ∧ IsR (SqT K H) v R ∧ IsV (SqT K H) u n ∧ R.length ≤ 1000 ∧ ∀ H', Go T [] H H' → Q (.bl (inR n R)) H'
theorem ok_l_is_in (D : Top K mg "_law_is_in" s_l_is_in) : DefF P w K mg base 1 "_law_is_in" ["_law_stretches", "_law_version_here"] (spIsIn T K) := by
  refine def_of D sc_l_is_in bd_l_is_in (fun vs H Q E ⟨_, _, _, _, e, _⟩ => by rw [e]; rfl) ?_
  rintro f cdv A outer s H vs Q E hr ⟨v, u, R, n, rfl, ⟨p, xs, rfl, hp, ax⟩, ⟨pu, rfl, hu, hn⟩, lR, qq⟩
  refine ⟨_, pss_one (ps_ret (pe_cmpR (neD K hr.units) (pe_lcW (own := [("_law_low", 2), ("_law_high", 3)]) sc_l_is_in.nd (blkOk_by (N := n_l_is_in) (sc := defScope s_l_is_in) (by decide +kernel)) (pi_tup (pv 0))
    (fun s' H' C cl fp => by exact pgT K 2 (pgs_cons (pg_name (i := 2) sc_l_is_in.nd rfl (.inl rfl)) (pgs_cons (pg_name (i := 3) sc_l_is_in.nd rfl (.inl rfl)) pgs_nil)))
    (fun s' H' C cl fp => pts_one (PW.pt (pw_and (pt_cmpR (leT K hr.units0) (pv 2) (pv 1) (nomark _)) (pw_and1 (PW.pt (pw_or (pt_cmp (pc_isN (pv 3))) (pw_or1 (pt_cmpR (ltT K hr.units0) (pv 1) (pv 3) (nomark _)))))))))
    (fun s' H' C cl fp => pe_int)) (pe_lst pa_nil) (nomark _))), ?_⟩
  have hlx := AllS.len ax
  refine ⟨.ref p, rfl, p, rfl, ⟨_, hp⟩, ?_⟩
  let kf : Sg → Bool := fun s => decide (s.1 ≤ n) && below n s.2
  refine lc_go (T := T) (M := []) (it_tup (xs := xs)) (fun i => match R[i]? with | some s => kf s | none => false) (fun _ y _ => y = .int 1) (fun _ _ => True) (by rw [sizeLine_eq]; omega) (fun b m => by cases m) (fun q H' hq g => g.sqt hp) (fun i y q H' H'' _ _ e => e) (fun i x H' Kc Kn hi g it kc kn => ?_) fun q ys H1 hq g1 hl pr => ?_
  · obtain ⟨⟨l, o⟩, hs, pz, va, ve, rfl, tz, ia, ie⟩ := AllS.at ax it
    obtain ⟨pl, rfl, tl, hpl⟩ := ia
    refine ⟨pz, _, rfl, g.sqt tz, rfl, _, _, rfl, _, _, rfl, rfl, rfl, .ref pl, rfl, .ref pu, rfl, pl, pu, vI l, vI n, rfl, rfl, g.sqt tl, g.sqt hu, _, rfl, ?_⟩
    rw [vle]
    have kt : kf (l, o) = true → Kc (.int 1) H' := fun h => kc _ _ (by rw [hs]; exact h) Go.refl rfl fun _ _ _ => trivial
    have kfl : kf (l, o) = false → Kn H' := fun h => kn _ (by rw [hs]; exact h) Go.refl
    by_cases h1 : l ≤ n
    · rw [decide_eq_true h1]
      have hk : kf (l, o) = below n o := by
        show (decide (l ≤ n) && below n o) = _
        rw [decide_eq_true h1, Bool.true_and]
      cases o with
      | none =>
        cases (show ve = .non from ie)
        exact iteT ⟨_, rfl, _, rfl, iteT (iteT (kt hk))⟩
      | some e =>
        obtain ⟨pe, rfl, te, he⟩ := ie
        refine iteT ⟨_, rfl, _, rfl, iteF ⟨.ref pu, rfl, .ref pe, rfl, pu, pe, vI n, vI e, rfl, rfl, g.sqt hu, g.sqt te, _, rfl, ?_⟩⟩
        rw [vlt]
        have hk : kf (l, some e) = decide (n < e) := hk
        by_cases h2 : n < e
        · rw [decide_eq_true h2] at hk ⊢
          exact iteT (kt hk)
        · rw [decide_eq_false h2] at hk ⊢
          exact iteF (kfl hk)
    · rw [decide_eq_false h1]
      have hk : kf (l, o) = false := by
        show (decide (l ≤ n) && below n o) = _
        rw [decide_eq_false h1, Bool.false_and]
      exact iteF (iteF (kfl hk))
  · have e := ones_of pr
    rw [hlx] at e
    generalize hkk : ((List.range R.length).filter fun i => match R[i]? with | some s => kf s | none => false).length = k at e
    refine ⟨by decide, fun c hc => ⟨onesD k, onesD 0, .lst (.of (by rw [← e]; exact (Go.new (T := T) (M := []) hc).lst hl)) (ones_dp k), .lst (.of upd_same) .nil, shaped_ones _, shaped_ones _, ?_⟩⟩
    rw [ones_nil]
    have e3 : inR n R = (List.range R.length).any (fun i => match R[i]? with | some s => kf s | none => false) := by
      rw [inR_any]
      show R.any kf = _
      rw [← range_any kf R]
      congr 1
      funext i
      cases R[i]? <;> rfl
    have e2 : (!decide (k = 0)) = inR n R := by
      rw [e3, ← hkk]
      by_cases h : (List.range R.length).any (fun i => match R[i]? with | some s => kf s | none => false) = true
      · rw [h, decide_eq_false fun z => by rw [some_kept.mp z] at h; cases h]
        rfl
      · have h' := Bool.eq_false_iff.mpr h
        rw [h', decide_eq_true (some_kept.mpr h')]
        rfl
    show Q (.bl (!decide (k = 0))) _
    rw [e2]
    exact qq _ (g1.trans (Go.new hc))
end
end K3

namespace K3
open PySem PySem.Spec PyProof.Rows L2
theorem endsOf_cons (s : Sg) (R : Rg) : endsOf (s :: R) = (s.1 :: s.2.toList) ++ endsOf R := rfl
theorem endsOf_app (R S : Rg) : endsOf (R ++ S) = endsOf R ++ endsOf S := by
  unfold endsOf
  exact List.flatMap_append
section
variable {P : Program} {w : World} {K : PySem.W.Frag} {mg : Str → Option Value} {base : Heap} {T : Tbl}
def spPoints (T : Tbl) : Sp := fun vs H Q _ => ∃ (l m : Addr) (rs : List V) (Rs : List Rg), vs = [.ref l, .ref m] ∧ H l = some (.lst rs) ∧ H m = some (.lst []) ∧ Paired (fun v R => IsR (Th H) v R ∧ R.length ≤ 6) rs Rs ∧ rs.length ≤ 4 ∧
  ∀ p us ns H', Go T [] H H' → H p = none → Pts H' p us ns 49 → (∀ R ∈ Rs, ∀ e ∈ endsOf R, e ∈ ns) → Q (.ref p) H'
theorem ok_l_points (G : Glo K mg) (D : Top K mg "_law_points" s_l_points) : DefF P w K mg base 1 "_law_points" ["_law_ranges", "_law_more"] (spPoints T) := by
  refine def_of D sc_l_points bd_l_points (fun vs H Q E ⟨_, _, _, _, e, _⟩ => by rw [e]; rfl) ?_
  rintro f cdv A outer s H vs Q E hr ⟨l, m, rs, Rs, rfl, hl, hm, pr, lr, qq⟩
  refine ⟨_, pss_cons (ps_set (i := 2) sc_l_points.nd rfl (.inl rfl) (pe_op op_cat (pe_callTy (lstK K) (by rfl) (G.free "list" (by decide +kernel)) rfl (pa_cons (pv 1) pa_nil)) (pe_lst (pa_cons (pe_tup (pa_cons pe_int (pa_cons pe_int (pa_cons pe_int pa_nil)))) pa_nil))))
    (pss_cons (ps_forW PassesOwn.never (pi_list (pv 0)) (pg_name (i := 3) sc_l_points.nd rfl (.inl rfl))
      (pss_one (ps_forW PassesOwn.never (pi_tup (pv 3)) (pgT K 2 (pgs_cons (pg_name (i := 4) sc_l_points.nd rfl (.inl rfl)) (pgs_cons (pg_name (i := 5) sc_l_points.nd rfl (.inl rfl)) pgs_nil)))
        (pss_one (ps_expr (pe_bm PySem.F.plainAttrs_list PySem.F.slot_list_extend PySem.F.type_list_extend mt_extend (pv 2) (pa_cons
          (pe_op op_cat (pe_lst (pa_cons (pv 4) pa_nil)) (pe_op op_rep (pe_lst (pa_cons (pv 5) pa_nil)) (pe_callTy call_int1 (by rfl) (G.free "int" (by decide +kernel)) rfl (pa_cons (pe_cmp (pc_notN (pv 5))) pa_nil)))) pa_nil)))))))
    (pss_one (ps_ret (pe_callB (cr_sortedT rfl) (by rfl) (G.free "sorted" (by decide +kernel)) rfl (pa_cons (pe_callTy (cr_setOfT rfl hr.units) (by rfl) (G.free "set" (by decide +kernel)) rfl (pa_cons (pv 2) pa_nil)) pa_nil))))), ?_⟩
  refine ⟨.ref m, rfl, m, [], rfl, .inl (.of hm), fun d hd => ?_⟩
  refine ⟨by show 3 ≤ sizeLine; decide, fun t ht => ⟨by show 1 ≤ sizeLine; decide, fun c hc => ?_⟩⟩
  have k1 := Go.new (T := T) (M := []) (o := .lst []) hd
  have k2 := Go.new (T := T) (M := []) (o := .tup [V.int 0, V.int 0, V.int 0]) ht
  have k3 := Go.new (T := T) (M := []) (o := .lst [.ref t]) hc
  refine ⟨d, c, [], [.ref t], rfl, rfl, (k2.trans k3).lst upd_same, upd_same, by show 1 ≤ sizeLine; decide, fun q hq => ?_⟩
  have k4 := Go.new (T := T) (M := []) (o := .lst ([] ++ [V.ref t])) hq
  have g0 := ((k1.trans k2).trans k3).trans k4
  have hqn : H q = none := ((k1.trans k2).trans k3).back q hq
  have iv0 : IsV (Th (upd (upd H d (.lst [])) t (.tup [V.int 0, V.int 0, V.int 0]))) (.ref t) 0 := ⟨t, rfl, upd_same, by decide⟩
  have iv4 := iv0.goH (k3.trans k4)
  have hq4 : upd (upd (upd (upd H d (.lst [])) t (.tup [V.int 0, V.int 0, V.int 0])) c (.lst [.ref t])) q (.lst ([] ++ [V.ref t])) q = some (.lst [.ref t]) := upd_same
  generalize upd (upd (upd (upd H d (.lst [])) t (.tup [V.int 0, V.int 0, V.int 0])) c (.lst [.ref t])) q (.lst ([] ++ [V.ref t])) = H4 at g0 iv4 hq4 ⊢
  refine ⟨.ref l, rfl, l, rfl, ⟨_, .of (g0.lst hl)⟩, ?_⟩
  have lRs : Rs.length = rs.length := Paired.lenEq pr
  let Pv : Nat → L2.St → Hp → Prop := fun i σ H' => Go T [] H H' ∧ ∃ (acc : List V) (y3 y4 y5 : Option V) (ms : List Nat), σ = [some (.ref l), some (.ref m), some (.ref q), y3, y4, y5] ∧ H' q = some (.lst acc) ∧ Vers H' acc ms ∧ acc.length ≤ 1 + 12 * i ∧ 0 ∈ ms ∧ ∀ (j : Nat) (R : Rg), j < i → Rs[j]? = some R → ∀ e ∈ endsOf R, e ∈ ms
  refine for_go (T := T) (it_lst (xs := rs)) Pv ⟨g0, [.ref t], none, none, none, [0], rfl, hq4, .cons iv4 .nil, by simp, by simp, fun j R hj => absurd hj (Nat.not_lt_zero j)⟩ (fun i σ H' _ h => .of (h.1.lst hl)) ?_ ?_
  · rintro i x σ H1 H2 hi ⟨g1, acc, y3, y4, y5, ms, rfl, hq1, va, la, h0, hms⟩ g2 hx
    have hRi : Rs[i]? = some Rs[i] := List.getElem?_eq_getElem (by omega)
    obtain ⟨hR, l6⟩ := Paired.all pr i x Rs[i] hx hRi
    generalize Rs[i] = R at hRi hR l6
    obtain ⟨p, zs, rfl, hp, az⟩ := hR
    have lz := AllS.len az
    have g12 := g1.trans g2
    refine ⟨.ref p, rfl, p, rfl, ⟨_, .of (g12.tup _ _ hp)⟩, ?_⟩
    let Pw : Nat → L2.St → Hp → Prop := fun k σ H' => Go T [] H H' ∧ ∃ (acc : List V) (y4 y5 : Option V) (ms : List Nat), σ = [some (.ref l), some (.ref m), some (.ref q), some (.ref p), y4, y5] ∧ H' q = some (.lst acc) ∧ Vers H' acc ms ∧ acc.length ≤ 1 + 12 * i + 2 * k ∧ 0 ∈ ms ∧ (∀ (j : Nat) (R : Rg), j < i → Rs[j]? = some R → ∀ e ∈ endsOf R, e ∈ ms) ∧ ∀ e ∈ endsOf (R.take k), e ∈ ms
    refine for_go (T := T) (it_tup (xs := zs)) Pw ⟨g12, acc, y4, y5, ms, rfl, g2.lst hq1, va.go g2, by omega, h0, hms, fun e he => by cases he⟩ (fun i σ H' _ h => .of (h.1.tup _ _ hp)) ?_ ?_
    · rintro k x σ H3 H4' hk ⟨g3, acc, y4, y5, ms, rfl, hq3, va3, la3, h03, hms3, hk3⟩ g4 hxk
      obtain ⟨⟨a, o⟩, hs, pz, xa, xo, rfl, tz, ia, io⟩ := AllS.at az hxk
      have g34 := g3.trans g4
      refine ⟨pz, _, rfl, .of (g34.tup _ _ tz), rfl, _, _, rfl, _, _, rfl, rfl, ?_⟩
      have hs' : R.take (k + 1) = R.take k ++ [(a, o)] := by rw [List.take_add_one, hs]; rfl
      have ia4 := ia.goH g34
      obtain ⟨os, hos, vos, los⟩ : ∃ os : List V, (List.replicate (if (!decide (xo = V.non)) = true then (1 : Int) else 0).toNat [xo]).flatten = os ∧ Vers H4' os o.toList ∧ os.length ≤ 1 := by
        cases o with
        | none =>
          cases (show xo = .non from io)
          exact ⟨[], rfl, .nil, by decide⟩
        | some e =>
          have io' := (show IsV (Th H) xo e from io).goH g34
          obtain ⟨pe, rfl, _⟩ := io'
          exact ⟨[.ref pe], rfl, .cons ((show IsV (Th H) (.ref pe) e from io).goH g34) .nil, Nat.le_refl _⟩
      refine ⟨.ref q, rfl, tyL (g4.lst hq3), xa, rfl, by show 1 ≤ sizeLine; decide, fun c1 hc1 => ⟨xo, rfl, by show 1 ≤ sizeLine; decide, fun c2 hc2 => ⟨xo, rfl, .inr ⟨_, rfl, c2, _, [xo], rfl, rfl, upd_same, by split <;> decide, by split <;> decide, by rw [sizeLine_eq, List.length_singleton]; split <;> decide, fun c3 hc3 => by
        have j1 := Go.new (T := T) (M := []) (o := .lst [xa]) hc1
        have j2 := Go.new (T := T) (M := []) (o := .lst [xo]) hc2
        have j3 := Go.new (T := T) (M := []) (o := .lst (List.replicate (if (!decide (xo = V.non)) = true then (1 : Int) else 0).toNat [xo]).flatten) hc3
        refine ⟨c1, c3, [xa], _, rfl, rfl, (j2.trans j3).lst upd_same, upd_same, by rw [hos, sizeLine_eq, List.length_singleton]; omega, fun c4 hc4 => ⟨q, c4, acc, _, rfl, rfl, (((j1.trans j2).trans j3).trans (Go.new hc4)).lst (g4.lst hq3), upd_same, by rw [hos, sizeLine_eq, List.length_append, List.length_singleton]; omega, ?_⟩⟩
        have jj := ((j1.trans j2).trans j3).trans (Go.new (T := T) (M := []) (o := .lst ([xa] ++ (List.replicate (if (!decide (xo = V.non)) = true then (1 : Int) else 0).toNat [xo]).flatten)) hc4)
        have gw := (g4.trans jj).lst hq3
        have kw : Go T [q] _ (upd _ q (.lst (acc ++ ([xa] ++ (List.replicate (if (!decide (xo = V.non)) = true then (1 : Int) else 0).toNat [xo]).flatten)))) := Go.wr (T := T) (by simp) gw
        refine ⟨(g34.trans jj).mut hqn gw, _, some xa, some xo, ms ++ (a :: o.toList), rfl, upd_same, ?_, ?_, List.mem_append_left _ h03, fun j R hj hR e he => List.mem_append_left _ (hms3 j R hj hR e he), fun e he => ?_⟩
        · have vos' := vos
          rw [← hos] at vos'
          exact Vers.app ((va3.go (g4.trans jj)).go kw) (.cons ((ia4.goH jj).goH kw) ((vos'.go jj).go kw))
        · rw [hos, List.length_append, List.length_append, List.length_singleton]
          omega
        · rw [hs', endsOf_app] at he
          rcases List.mem_append.mp he with h | h
          · exact List.mem_append_left _ (hk3 e h)
          · exact List.mem_append_right _ (by simpa [endsOf] using h)⟩⟩⟩⟩
    · rintro σ H3 ⟨g3, acc, y4, y5, ms, rfl, hq3, va3, la3, h03, hms3, hk3⟩
      refine ⟨g3, acc, some (.ref p), y4, y5, ms, rfl, hq3, va3, by omega, h03, fun j R' hj hR' e he => ?_⟩
      rcases Nat.lt_or_eq_of_le (Nat.le_of_lt_succ hj) with h | rfl
      · exact hms3 j R' h hR' e he
      · rw [hRi] at hR'
        cases hR'
        exact hk3 e (by rw [List.take_of_length_le (by omega)]; exact he)
  · rintro σ H1 ⟨g1, acc, y3, y4, y5, ms, rfl, hq1, va, la, h0, hms⟩
    refine ⟨.ref q, rfl, ?_⟩
    refine set_sorted (T := T) (K := K) (P := P) (w := w) (Q := Q) (ns := ms) (.of hq1) va (by omega) fun p H2 us' ns' g2 np hp2 hv2 as mem => ?_
    refine qq p us' ns' H2 (g1.trans g2) (g1.back p np) ⟨hp2, hv2, as, asc_head as ((mem 0).mpr h0), ?_⟩ fun R hR e he => ?_
    · have l1 := nodup_len as fun n h => (mem n).mp h
      have l2 := Paired.lenEq hv2
      have l3 := Paired.lenEq va
      omega
    · obtain ⟨j, hj, rfl⟩ := List.getElem_of_mem hR
      exact (mem e).mpr (hms j _ (by omega) (List.getElem?_eq_getElem hj) e he)
end
end K3

/-! list(zip(a, b)), a and b lists -/
namespace K3
open PySem PySem.Spec PyProof.Rows L2
theorem zip_len0 : typeLookup (.type "zip") "__len__" = pure none := by (rw [typeLookup_type, builtinLookup_eq_fast]; kernel_rfl)
theorem zip_hint0 : typeLookup (.type "zip") "__length_hint__" = pure none := by (rw [typeLookup_type, builtinLookup_eq_fast]; kernel_rfl)
/-- the places of a zip and of its two iterators -/
structure ZPl where
  z : Addr
  ti : Addr
  tO : Addr
  i1 : Addr
  i2 : Addr
  a : Addr
  b : Addr
structure ZSt (Z : ZPl) (xs ys : Array Value) (S : Addr) (i : Nat) (h : Heap) : Prop where
  ti : IsPair h Z.ti (.ref Z.i1) (.ref Z.i2)
  n1 : h.IsListIter Z.i1 Z.a i
  n2 : h.IsListIter Z.i2 Z.b i
  la : h.IsList Z.a xs
  lb : h.IsList Z.b ys
  own : (IsZip h Z.z Z.ti Z.tO .none ∧ ∃ a b, IsPair h Z.tO a b) ∨ ∃ t f o, IsZipHeld h Z.z Z.ti Z.tO t f ∧ h.get? t = some o ∧ t ≠ Z.z ∧ t ≠ Z.i1 ∧ t ≠ Z.i2 ∧ t ≠ S
structure ZOff (Z : ZPl) (S : Addr) : Prop where
  z : Z.z ≠ S
  ti : Z.ti ≠ S
  tO : Z.tO ≠ S
  i1 : Z.i1 ≠ S
  i2 : Z.i2 ≠ S
  a : Z.a ≠ S
  b : Z.b ≠ S
theorem ZSt.keep {Z : ZPl} {xs ys : Array Value} {S : Addr} {i : Nat} {h h' : Heap} (st : ZSt Z xs ys S i h) (F : ZOff Z S) (k : ∀ b o, b ≠ S → h.get? b = some o → h'.get? b = some o) : ZSt Z xs ys S i h' where
  ti := k _ _ F.ti st.ti
  n1 := st.n1.at fun o e => k _ o F.i1 e
  n2 := st.n2.at fun o e => k _ o F.i2 e
  la := st.la.at fun o e => k _ o F.a e
  lb := st.lb.at fun o e => k _ o F.b e
  own := by
    rcases st.own with ⟨e, a, b, e2⟩ | ⟨t, f, o, e, e2, r1, r2, r3, r4⟩
    · exact .inl ⟨k _ _ F.z e, a, b, k _ _ F.tO e2⟩
    · exact .inr ⟨t, f, o, k _ _ F.z e, k _ _ r4 e2, r1, r2, r3, r4⟩
abbrev ZPl.Apart (Z : ZPl) : Prop := ZipApart Z.z Z.ti Z.tO Z.i1 Z.i2 Z.a Z.b
/-- an object that a turn of the zip leaves -/
structure ZNot (Z : ZPl) (c : Addr) : Prop where
  z : c ≠ Z.z
  tO : c ≠ Z.tO
  i1 : c ≠ Z.i1
  i2 : c ≠ Z.i2
section
variable {prog : Program} {w : World} {A : Around} {E : Value → Shared → Prop} {s : Shared} {Z : ZPl} {xs ys : Array Value} {S : Addr} {i : Nat}
theorem zl_item {Q : Option Value → Shared → Prop} {x y : Value} (D : Z.Apart) (st : ZSt Z xs ys S i s.heap) (hS : S < s.heap.objs.size) (hx : xs[i]? = some x) (hy : ys[i]? = some y)
    (hQ : ∀ h', ZSt Z xs ys S (i + 1) h' → IsPair h' s.heap.objs.size x y → h'.objs.size = s.heap.objs.size + 1 → (∀ c o, ZNot Z c → s.heap.get? c = some o → h'.get? c = some o) → Q (some (.ref s.heap.objs.size)) { s with heap := h' }) :
    wpAny (model prog w) A (pyNext (.ref Z.z)) Q E s := by
  have lt : ∀ {c o}, s.heap.get? c = some o → s.heap.objs.size ≠ c := fun e => Nat.ne_of_gt (Heap.lt_size e)
  have n1 : s.heap.objs.size ≠ Z.i1 := by obtain ⟨_, e, _⟩ := st.n1; exact lt e
  have n2 : s.heap.objs.size ≠ Z.i2 := by obtain ⟨_, e, _⟩ := st.n2; exact lt e
  rcases st.own with ⟨hz, a, b, hTO⟩ | ⟨t, f, o, hz, hT, r1, r2, r3, r4⟩
  · refine wpAny_pyNext_zip_item D hz st.ti hTO st.n1 st.n2 st.la st.lb hx hy fun h' a1 a2 a3 a4 a5 a6 k => hQ h' ⟨k _ _ D.TIz D.TITO D.TIi1 D.TIi2 st.ti, a3, a4, st.la.at fun o e => k _ o D.l1z D.l1TO D.l1i1 D.l1i2 e, st.lb.at fun o e => k _ o D.l2z D.l2TO D.l2i1 D.l2i2 e, ?_⟩ a5 a6 fun c o n e => k c o n.z n.tO n.i1 n.i2 e
    exact .inr ⟨_, false, _, a1, a5, lt hz, n1, n2, Nat.ne_of_gt hS⟩
  · refine wpAny_pyNext_zip_item_held D hz hT st.ti st.n1 st.n2 st.la st.lb hx hy fun h' a1 a3 a4 a5 a6 k => hQ h' ⟨k _ _ D.TIz D.TIi1 D.TIi2 st.ti, a3, a4, st.la.at fun o e => k _ o D.l1z D.l1i1 D.l1i2 e, st.lb.at fun o e => k _ o D.l2z D.l2i1 D.l2i2 e, ?_⟩ a5 a6 fun c o n e => k c o n.z n.i1 n.i2 e
    exact .inr ⟨t, true, o, a1, k _ _ r1 r2 r3 hT, r1, r2, r3, r4⟩
theorem zl_done {Q : Option Value → Shared → Prop} (hh : A.handled = none) (D : Z.Apart) (st : ZSt Z xs ys S i s.heap) (he : xs[i]? = none ∨ ys[i]? = none)
    (hQ : ∀ h', (∀ c o, ZNot Z c → s.heap.get? c = some o → h'.get? c = some o) → Q none { s with heap := h' }) : wpAny (model prog w) A (pyNext (.ref Z.z)) Q E s := by
  rcases st.own with ⟨hz, a, b, hTO⟩ | ⟨t, f, o, hz, hT, r1, r2, r3, r4⟩
  · exact wpAny_pyNext_zip_end hh D hz st.ti hTO st.n1 st.n2 st.la st.lb he fun h' k => hQ h' fun c o n e => k c o n.z n.tO n.i1 n.i2 e
  · exact wpAny_pyNext_zip_end_held hh D hz hT st.ti st.n1 st.n2 st.la st.lb he fun h' k => hQ h' fun c o n e => k c o n.z n.i1 n.i2 e
end
/-- the pairs laid -/
structure ZG (xs ys : Array Value) (lo : Nat) (h : Heap) (as : List Addr) : Prop where
  rise : as.Pairwise (· < ·)
  above : ∀ a ∈ as, lo ≤ a
  pairs : ∀ (j : Nat) (a : Addr), as[j]? = some a → ∃ x y, xs[j]? = some x ∧ ys[j]? = some y ∧ IsPair h a x y
theorem ZG.keep {xs ys : Array Value} {lo : Nat} {h h' : Heap} {as : List Addr} (g : ZG xs ys lo h as) (k : ∀ b o, lo ≤ b → h.get? b = some o → h'.get? b = some o) : ZG xs ys lo h' as :=
  ⟨g.rise, g.above, fun j a e => let ⟨x, y, e1, e2, e3⟩ := g.pairs j a e; ⟨x, y, e1, e2, k a _ (g.above a (List.mem_of_getElem? e)) e3⟩⟩
theorem ZG.snoc {xs ys : Array Value} {lo n : Nat} {h : Heap} {as : List Addr} {x y : Value} (g : ZG xs ys lo h as) (hn : ∀ a ∈ as, a < n) (hl : lo ≤ n) (hx : xs[as.length]? = some x) (hy : ys[as.length]? = some y) (e : IsPair h n x y) : ZG xs ys lo h (as ++ [n]) := by
  refine ⟨List.pairwise_append.mpr ⟨g.rise, List.pairwise_singleton .., fun a ha b hb => by rw [List.mem_singleton.mp hb]; exact hn a ha⟩, fun a ha => ?_, fun j b hj => ?_⟩
  · rcases List.mem_append.mp ha with h1 | h1
    · exact g.above a h1
    · rw [List.mem_singleton.mp h1]
      exact hl
  · rcases Nat.lt_trichotomy j as.length with h1 | rfl | h1
    · exact g.pairs j b (by rwa [List.getElem?_append_left h1] at hj)
    · have : n = b := by simpa using hj
      subst this
      exact ⟨x, y, hx, hy, e⟩
    · rw [List.getElem?_eq_none (by rw [List.length_append, List.length_singleton]; omega)] at hj
      cases hj
theorem ZG.there {xs ys : Array Value} {lo : Nat} {h : Heap} {as : List Addr} (g : ZG xs ys lo h as) : ∀ a ∈ as, a < h.objs.size := fun a ha => by
  obtain ⟨j, hj⟩ := List.mem_iff_getElem?.mp ha
  obtain ⟨_, _, _, _, e⟩ := g.pairs j a hj
  exact Heap.lt_size e
/-- the list at S -/
abbrev ListO (acc : Array Value) (c : Nat) : Obj := { cls := .type "list", dict := none, data := .seq acc c, slots := #[] }
structure ZLow (Z : ZPl) (S lo : Nat) : Prop where
  z : Z.z < lo
  tO : Z.tO < lo
  i1 : Z.i1 < lo
  i2 : Z.i2 < lo
  S : S < lo
theorem ZLow.not {Z : ZPl} {S lo b : Nat} (l : ZLow Z S lo) (h : lo ≤ b) : ZNot Z b := ⟨Nat.ne_of_gt (Nat.lt_of_lt_of_le l.z h), Nat.ne_of_gt (Nat.lt_of_lt_of_le l.tO h), Nat.ne_of_gt (Nat.lt_of_lt_of_le l.i1 h), Nat.ne_of_gt (Nat.lt_of_lt_of_le l.i2 h)⟩
section
variable {prog : Program} {w : World} {A : Around} {s : Shared} {Z : ZPl} {xs ys : Array Value} {S lo : Nat} {R : Result → Shared → Prop}
theorem zl_loop (hh : A.handled = none) (D : Z.Apart) (F : ZOff Z S) (L : ZLow Z S lo) (hn : xs.size ≤ sizeLine) (hxy : ys.size = xs.size) (res : Value) {h₁ : Heap}
    (hR : ∀ h' tk acc c as, (∀ b o, b ≠ S → ZNot Z b → h₁.get? b = some o → h'.get? b = some o) → h'.get? S = some (ListO acc c) → as.length = xs.size → ZG xs ys lo h' as → acc.toList = as.map Value.ref → R (.ok (.ret res)) { s with heap := h', toks := tk }) :
    ∀ (k i : Nat) (h : Heap) (tk c : Nat) (acc : Array Value) (as : List Addr), xs.size - i = k → i ≤ xs.size → ZSt Z xs ys S i h → (∀ b o, b ≠ S → ZNot Z b → h₁.get? b = some o → h.get? b = some o) → h.get? S = some (ListO acc c) → acc.toList = as.map Value.ref → as.length = i → ZG xs ys lo h as → lo ≤ h.objs.size →
      codeAny (model prog w) A (.builtin "list.extend.loop" ⟨[.ref S, .ref Z.z, res], []⟩) R { s with heap := h, toks := tk } := by
  have nS : ZNot Z S := ⟨F.z.symm, F.tO.symm, F.i1.symm, F.i2.symm⟩
  intro k
  induction k with
  | zero =>
    intro i h tk c acc as hk hi st kp hS ha hl g lo'
    refine (codeAny_builtin PySem.F.entry_extend_loop ?_)
    rw [Around.under_plainId (PySem.F.plain_extend_loop) _]
    show wpAny _ A.in1 (pyNext (.ref Z.z) >>= _) _ _ _
    refine wpAny_bind (zl_done (s := { s with heap := h, toks := tk }) (A := A.in1) hh D st (.inl (Array.getElem?_eq_none (by omega))) fun h' kk => ?_)
    exact wpAny_pure (hR h' tk acc c as (fun b o h1 h2 e => kk b o h2 (kp b o h1 h2 e)) (kk S _ nS hS) (by omega) (g.keep fun b o hb e => kk b o (L.not hb) e) ha)
  | succ k ih =>
    intro i h tk c acc as hk hi st kp hS ha hl g lo'
    have hx : xs[i]? = some xs[i] := Array.getElem?_eq_getElem (by omega)
    have hy : ys[i]? = some ys[i] := Array.getElem?_eq_getElem (by omega)
    have hsz : acc.size = i := by rw [← Array.length_toList, ha, List.length_map, hl]
    refine (codeAny_builtin PySem.F.entry_extend_loop ?_)
    rw [Around.under_plainId (PySem.F.plain_extend_loop) _]
    show wpAny _ A.in1 (pyNext (.ref Z.z) >>= _) _ _ _
    refine wpAny_bind (zl_item (s := { s with heap := h, toks := tk }) D st (Heap.lt_size hS) hx hy fun h' st' hp hz kk => ?_)
    dsimp only at hp hz kk ⊢
    have hS' := kk S _ nS hS
    have up : ∀ b o, b ≠ S → h'.get? b = some o → (h'.update S (Obj.mapSeq (·.push (Value.ref h.objs.size)))).get? b = some o := fun b o hb e => (Heap.get?_update_other _ _ (Ne.symm hb)).trans e
    have upz : (h'.update S (Obj.mapSeq (·.push (Value.ref h.objs.size)))).objs.size = h'.objs.size := by
      simp [Heap.update]
    show wpAny _ A.in1 (updateSeq S (·.push (Value.ref h.objs.size)) >>= _) _ _ _
    refine wpAny_bind (wpAny_updateSeq hS' rfl (wpAny_pure ⟨plainId_quiet (PySem.F.plain_extend_loop) _, ih (i + 1) _ tk _ (acc.push (Value.ref h.objs.size)) (as ++ [h.objs.size]) (by omega) (by omega) (st'.keep F up) (fun b o h1 h2 e => up b o h1 (kk b o h2 (kp b o h1 h2 e))) (Heap.get?_update_self _ hS' rfl) ?_ ?_ ?_ ?_⟩) ?_ ?_)
    · rw [Array.toList_push, ha, List.map_append]
      rfl
    · rw [List.length_append, hl]
      rfl
    · refine ZG.keep (ZG.snoc (g.keep fun b o hb e => kk b o (L.not hb) e) g.there lo' (by rw [hl]; exact hx) (by rw [hl]; exact hy) hp) fun b o hb e => up b o (fun z => ?_) e
      have := L.S
      omega
    · rw [upz, hz]
      omega
    · rw [hsz]
      omega
    · show (acc.push (Value.ref h.objs.size)).size ≤ sizeLine + 1
      rw [Array.size_push, hsz]
      omega
end
end K3

namespace K3
open PySem PySem.Spec PyProof.Rows L2
section
variable {prog : Program} {w : World} {A : Around} {E : Value → Shared → Prop} {s : Shared} {Z : ZPl} {xs ys : Array Value} {R : Result → Shared → Prop}
/-- what the list's end may ask -/
abbrev ZR (xs ys : Array Value) (Z : ZPl) (S lo : Nat) (h₁ : Heap) (P : Heap → Nat → Prop) : Prop := ∀ h' tk acc c as, (∀ b o, b ≠ S → ZNot Z b → h₁.get? b = some o → h'.get? b = some o) → h'.get? S = some (ListO acc c) → as.length = xs.size → ZG xs ys lo h' as → acc.toList = as.map Value.ref → P h' tk
theorem zl_extend {S lo : Nat} (hh : A.handled = none) (D : Z.Apart) (F : ZOff Z S) (L : ZLow Z S lo) (hn : xs.size ≤ sizeLine) (hxy : ys.size = xs.size) (st : ZSt Z xs ys S 0 s.heap) (hzt : ∃ t, IsZip s.heap Z.z Z.ti Z.tO t) (hlo : lo ≤ s.heap.objs.size) (res : Value) (c0 : Nat) (hS : s.heap.get? S = some (ListO #[] c0))
    (hR : ZR xs ys Z S lo s.heap fun h' tk => R (.ok (.ret res)) { s with heap := h', toks := tk }) :
    wpAny (model prog w) A.in1 (Builtin.List.listExtendWith (.ref S) (.ref Z.z) res) (fun fin s' => match fin with | .done f => R (.ok f) s' | .again c' => c'.quiet = true ∧ codeAny (model prog w) A c' R s') (fun e s' => R (.error e) s') s := by
  obtain ⟨t, hz⟩ := hzt
  have hT : s.TypeIs (.ref Z.z) "zip" := ⟨_, hz, rfl⟩
  unfold Builtin.List.listExtendWith
  refine wpAny_bind (wpAny_typeOf hT ?_)
  have e1 : Builtin.List.listSameRef (.ref S) (.ref Z.z) = false := by simp [Builtin.List.listSameRef, F.z.symm]
  have e2 : ((Value.type "zip") == Value.type "list") = false := by decide
  have e3 : ((Value.type "zip") == Value.type "tuple") = false := by decide
  simp only [e1, e2, e3, Bool.or_false, Bool.false_eq_true, if_false]
  refine wpAny_bind (wpAny_pyIter_zip hz ?_)
  refine wpAny_bind (wpAny_holding ?_)
  unfold Builtin.List.listLengthHint
  refine wpAny_bind (wpAny_specialOf hT zip_len0 ?_)
  show wpAny _ A.in1 (specialOf (Value.ref Z.z) (Str.ofString "__length_hint__") >>= _) _ _ _
  refine wpAny_bind (wpAny_specialOf hT zip_hint0 ?_)
  refine wpAny_pure ?_
  show wpAny _ A.in1 (rule "list.extend.makes-room" >>= fun _ => Builtin.List.listTouch (.ref S) >>= fun _ => again (.builtin "list.extend.loop" ⟨[.ref S, .ref Z.z, res], []⟩)) _ _ _
  refine wpAny_bind (wpAny_rule ?_)
  refine wpAny_bind ?_
  show wpAny _ A.in1 (updateSeq S (·.push Value.none) >>= fun _ => updateSeq S (·.pop)) _ _ _
  refine wpAny_bind (wpAny_updateSeq hS rfl ?_)
  have h2 := Heap.get?_update_self (Obj.mapSeq (·.push Value.none)) hS rfl
  refine (wpAny_updateSeq (hz := by seq_fits) h2 rfl ?_)
  have h3 := Heap.get?_update_self (Obj.mapSeq (·.pop)) h2 rfl
  have oth : ∀ b o, b ≠ S → s.heap.get? b = some o → ((s.heap.update S (Obj.mapSeq (·.push Value.none))).update S (Obj.mapSeq (·.pop))).get? b = some o := fun b o hb e => (Heap.get?_update_other _ _ (Ne.symm hb)).trans ((Heap.get?_update_other _ _ (Ne.symm hb)).trans e)
  refine wpAny_pure ⟨plainId_quiet (PySem.F.plain_extend_loop) _, ?_⟩
  refine zl_loop (s := s) (h₁ := s.heap) hh D F L hn hxy res hR xs.size 0 _ s.toks _ #[] [] (Nat.sub_zero _) (Nat.zero_le _) (st.keep F oth) (fun b o h1 _ e => oth b o h1 e) h3 rfl rfl ⟨.nil, (fun a ha => by cases ha), fun j a hj => by simp at hj⟩ ?_
  simp only [Heap.update, Array.size_modify]
  exact hlo
theorem zl_init {S lo : Nat} (hh : A.handled = none) (D : Z.Apart) (F : ZOff Z S) (L : ZLow Z S lo) (hn : xs.size ≤ sizeLine) (hxy : ys.size = xs.size) (st : ZSt Z xs ys S 0 s.heap) (hzt : ∃ t, IsZip s.heap Z.z Z.ti Z.tO t) (hlo : lo ≤ s.heap.objs.size) (hS : s.heap.get? S = some (ListO #[] 0))
    (hR : ZR xs ys Z S lo s.heap fun h' tk => R (.ok (.ret .none)) { s with heap := h', toks := tk }) :
    wpAny (model prog w) A.in1 (Builtin.«list.__init__» ⟨[.ref S, .ref Z.z], []⟩) (fun fin s' => match fin with | .done f => R (.ok f) s' | .again c' => c'.quiet = true ∧ codeAny (model prog w) A c' R s') (fun e s' => R (.error e) s') s := by
  show wpAny _ _ (do let old ← Builtin.List.listItems (.ref S); Builtin.List.listUpdate (.ref S) (fun _ => #[]); letGo old.toList.reverse; Builtin.List.listExtendWith (.ref S) (.ref Z.z) .none) _ _ s
  refine wpAny_bind ?_
  unfold Builtin.List.listItems
  refine wpAny_bind (wpAny_seqItems hS rfl (wpAny_pure ?_))
  show wpAny _ A.in1 (updateSeq S (fun _ => #[]) >>= fun _ => letGo (#[] : Array Value).toList.reverse >>= fun _ => Builtin.List.listExtendWith (.ref S) (.ref Z.z) .none) _ _ s
  refine wpAny_bind (wpAny_updateSeq hS rfl ?_)
  have h2 := Heap.get?_update_self (Obj.mapSeq (fun _ => (#[] : Array Value))) hS rfl
  have oth : ∀ b o, b ≠ S → s.heap.get? b = some o → (s.heap.update S (Obj.mapSeq (fun _ => (#[] : Array Value)))).get? b = some o := fun b o hb e => (Heap.get?_update_other _ _ (Ne.symm hb)).trans e
  refine wpAny_bind (wpAny_letGo ?_)
  obtain ⟨t, hz⟩ := hzt
  refine zl_extend hh D F L hn hxy (st.keep F oth) ⟨t, oth _ _ F.z hz⟩ (by simp only [Heap.update, Array.size_modify]; exact hlo) .none _ h2 fun h' tk acc c as k1 k2 k3 k4 k5 => ?_
  exact hR h' tk acc c as (fun b o h1 h2 e => k1 b o h1 h2 (oth b o h1 e)) k2 k3 k4 k5
theorem zl_call {Q : Value → Shared → Prop} (hh : A.handled = none) (D : Z.Apart) (hn : xs.size ≤ sizeLine) (hxy : ys.size = xs.size) (hz : IsZip s.heap Z.z Z.ti Z.tO .none) (hti : IsPair s.heap Z.ti (.ref Z.i1) (.ref Z.i2)) (hto : ∃ a b, IsPair s.heap Z.tO a b) (h1 : s.heap.IsListIter Z.i1 Z.a 0) (h2 : s.heap.IsListIter Z.i2 Z.b 0) (la : s.heap.IsList Z.a xs) (lb : s.heap.IsList Z.b ys)
    (hQ : ∀ h' tk acc c as, (∀ b o, ZNot Z b → s.heap.get? b = some o → h'.get? b = some o) → h'.get? s.heap.objs.size = some (ListO acc c) → as.length = xs.size → ZG xs ys (s.heap.objs.size + 1) h' as → acc.toList = as.map Value.ref → Q (.ref s.heap.objs.size) { s with heap := h', toks := tk }) :
    wpAny (model prog w) A (call (.type "list") [.ref Z.z]) Q E s := by
  refine callType_codes (Q₁ := fun obj s₁ => obj = .ref s.heap.objs.size ∧ s₁ = { s with heap := s.heap.push (ListO #[] 0) }) PySem.F.called_list (PySem.F.typeCall_list_1 _) PySem.F.entry_list_init (code_list_new _ ⟨rfl, rfl⟩) fun obj s₁ hs => ?_
  obtain ⟨rfl, rfl⟩ := hs
  have hS : (s.heap.push (ListO #[] 0)).get? s.heap.objs.size = some (ListO #[] 0) := Heap.get?_push_size _ rfl
  have up : ∀ b o, s.heap.get? b = some o → (s.heap.push (ListO #[] 0)).get? b = some o := fun b o e => Heap.get?_push_of_some _ e
  have lz := Heap.lt_size hz
  have lti := Heap.lt_size hti
  have lto : Z.tO < s.heap.objs.size := by obtain ⟨a, b, e⟩ := hto; exact Heap.lt_size e
  have l1 : Z.i1 < s.heap.objs.size := by obtain ⟨_, e, _⟩ := h1; exact Heap.lt_size e
  have l2 : Z.i2 < s.heap.objs.size := by obtain ⟨_, e, _⟩ := h2; exact Heap.lt_size e
  have lla : Z.a < s.heap.objs.size := by obtain ⟨_, e, _⟩ := la; exact Heap.lt_size e
  have llb : Z.b < s.heap.objs.size := by obtain ⟨_, e, _⟩ := lb; exact Heap.lt_size e
  have hps : (s.heap.push (ListO #[] 0)).objs.size = s.heap.objs.size + 1 := Heap.size_push ..
  refine ⟨⟨_, hS, rfl⟩, PySem.F.args_list_init_2 _ _, zl_init (Z := Z) (lo := s.heap.objs.size + 1) (A := A.in1) (s := { s with heap := s.heap.push (ListO #[] 0) }) hh D ⟨Nat.ne_of_lt lz, Nat.ne_of_lt lti, Nat.ne_of_lt lto, Nat.ne_of_lt l1, Nat.ne_of_lt l2, Nat.ne_of_lt lla, Nat.ne_of_lt llb⟩
    ⟨Nat.lt_succ_of_lt lz, Nat.lt_succ_of_lt lto, Nat.lt_succ_of_lt l1, Nat.lt_succ_of_lt l2, Nat.lt_succ_self _⟩ hn hxy ⟨up _ _ hti, h1.at fun o e => up _ o e, h2.at fun o e => up _ o e, la.at fun o e => up _ o e, lb.at fun o e => up _ o e, .inl ⟨up _ _ hz, let ⟨a, b, e⟩ := hto; ⟨a, b, up _ _ e⟩⟩⟩ ⟨_, up _ _ hz⟩ (by rw [hps]; exact Nat.le_refl _) hS fun h' tk acc c as k1 k2 k3 k4 k5 => ?_⟩
  exact ⟨rfl, hQ h' tk acc c as (fun b o nb e => k1 b o (Nat.ne_of_lt (Heap.lt_size e)) nb (up b o e)) k2 k3 k4 k5⟩
end
end K3

namespace K3
open PySem PySem.Spec PyProof.Rows L2
theorem Go.keep {T : Tbl} {M : List Addr} {H H' : Hp} (k : ∀ b o, H b = some o → H' b = some o) : Go T M H H' :=
  ⟨fun b o _ e _ => k b o e, fun b xs e => k b _ e, fun b o u e => k b _ e, fun b e => (by
    cases h : H b with
    | none => rfl
    | some o => rw [k b o h] at e; cases e), fun t => LamX.Tabs.ext t k⟩
/-- the pairs tracked -/
def putZ : Hp → List Addr → List (V × V) → Hp
  | H, a :: as, q :: qs => putZ (upd H a (.tup [q.1, q.2])) as qs
  | H, _, _ => H
theorem putZ_off {b : Addr} : ∀ (as : List Addr) (qs : List (V × V)) (H : Hp), b ∉ as → putZ H as qs b = H b
  | [], _, _, _ => rfl
  | _ :: _, [], _, _ => rfl
  | a :: as, q :: qs, H, h => by
    have h1 : b ≠ a := fun z => h (z ▸ List.mem_cons_self ..)
    show putZ (upd H a _) as qs b = H b
    rw [putZ_off as qs _ fun z => h (List.mem_cons_of_mem _ z), upd_ne h1]
theorem putZ_at : ∀ (as : List Addr) (qs : List (V × V)) (H : Hp), as.length = qs.length → as.Nodup → ∀ (j : Nat) (a : Addr) (q : V × V), as[j]? = some a → qs[j]? = some q → putZ H as qs a = some (.tup [q.1, q.2])
  | a0 :: as, q0 :: qs, H, hl, hn, 0, a, q, h1, h2 => by
    cases h1
    cases h2
    show putZ (upd H a0 _) as qs a0 = _
    rw [putZ_off as qs _ (List.nodup_cons.mp hn).1, upd_same]
  | a0 :: as, q0 :: qs, H, hl, hn, j + 1, a, q, h1, h2 => putZ_at as qs (upd H a0 (.tup [q0.1, q0.2])) (Nat.succ.inj hl) (List.nodup_cons.mp hn).2 j a q h1 h2
  | [], _, _, _, _, j, a, q, h1, _ => by simp at h1
  | _ :: _, [], _, hl, _, _, _, _, _, _ => by simp at hl
/-- what list(zip(a, b)) promises -/
def rListZip (K : PySem.W.Frag) : List V → Hp → VK → Prop := fun vs H Q => ∃ (a b : Addr) (xs ys : List V), vs = [.ref a, .ref b] ∧ SqL K H a xs ∧ SqL K H b ys ∧ ys.length = xs.length ∧ xs.length ≤ 1000 ∧
  ∀ (H' : Hp) (p : Addr) (ts : List Addr), (∀ b o, H b = some o → H' b = some o) → H p = none → H' p = some (.lst (ts.map V.ref)) → Paired (fun t q => H' t = some (.tup [q.1, q.2])) ts (xs.zip ys) → Q (.ref p) H'
def tListZip (K : PySem.W.Frag) (t : TA) : TE := fun σ H Q => t σ H fun vs H1 => rListZip K vs H1 Q
section
variable {X : Cx} {pins : List (Addr × Obj)} {σ : L2.St} {H : Hp} {s0 : Shared}
theorem zl_laid {h' : Heap} {tk S c : Nat} {its its2 : List Value} {xs ys : List V} {acc : Array Value} {as : List Addr} (I : Inv X pins σ H s0) (kp : ∀ b o, s0.heap.get? b = some o → h'.get? b = some o) (hS : s0.heap.objs.size ≤ S) (eS : h'.get? S = some (ListO acc c)) (hl : as.length = xs.length) (hxy : ys.length = xs.length) (hz : xs.length ≤ 1000)
    (g : ZG its.toArray its2.toArray (S + 1) h' as) (ha : acc.toList = as.map Value.ref) (r1 : Vals xs its) (r2 : Vals ys its2) :
    ∃ H' : Hp, (∀ b o, H b = some o → H' b = some o) ∧ H S = none ∧ H' S = some (.lst (as.map V.ref)) ∧ Paired (fun t q => H' t = some (.tup [q.1, q.2])) as (xs.zip ys) ∧ Inv X pins σ H' { s0 with heap := h', toks := tk } := by
  have lz : (xs.zip ys).length = xs.length := by rw [List.length_zip]; omega
  have nd : as.Nodup := g.rise.imp fun {a b} (h : a < b) => Nat.ne_of_lt h
  have old : ∀ b, s0.heap.objs.size ≤ b → H b = none := fun b h => I.hok.fresh h
  have ab : ∀ t ∈ as, s0.heap.objs.size ≤ t := fun t ht => by
    have := g.above t ht
    omega
  have Sn : S ∉ as := fun z => by
    have := g.above S z
    omega
  have off : ∀ b, b ∉ as → b ≠ S → putZ (upd H S (.lst (as.map V.ref))) as (xs.zip ys) b = H b := fun b h1 h2 => by rw [putZ_off _ _ _ h1, upd_ne h2]
  have at_ := putZ_at as (xs.zip ys) (upd H S (.lst (as.map V.ref))) (by omega) nd
  have atS : putZ (upd H S (.lst (as.map V.ref))) as (xs.zip ys) S = some (.lst (as.map V.ref)) := by rw [putZ_off _ _ _ Sn, upd_same]
  have keep : ∀ b u, H b = some u → putZ (upd H S (.lst (as.map V.ref))) as (xs.zip ys) b = some u := fun b u e => by
    rw [off b (fun z => by rw [old b (ab b z)] at e; cases e) fun z => by rw [z, old S hS] at e; cases e]
    exact e
  refine ⟨_, keep, old S hS, atS, Paired.ofGet (by omega) at_, ?_⟩
  refine I.call' (ch := []) rfl ⟨fun b o q _ _ _ => kp b o q, fun b o q _ _ _ => ⟨o.slots, kp b o q⟩, fun b o q n _ => ?_, fun b o q _ => ⟨o, kp b o q⟩, fun b xs q => keep b _ q, fun b o u q => keep b _ q, fun b ps q => ⟨#[], by rw [keep b _ q]; simp⟩⟩ (fun b u q => ?_) I.bare fun b z => by cases z
  · have hb := Heap.lt_size q
    rw [off b (fun z => absurd (ab b z) (Nat.not_le.mpr hb)) fun z => absurd (z ▸ hS) (Nat.not_le.mpr hb)]
    exact n
  · by_cases hb : b ∈ as
    · obtain ⟨j, hj⟩ := List.mem_iff_getElem?.mp hb
      have hjl : j < as.length := (List.getElem?_eq_some_iff.mp hj).1
      have hq : (xs.zip ys)[j]? = some (xs.zip ys)[j] := List.getElem?_eq_getElem (by omega)
      obtain ⟨q1, q2⟩ := List.getElem?_zip_eq_some.mp hq
      rw [at_ j b _ hj hq] at q
      cases q
      obtain ⟨x, y, e1, e2, e3⟩ := g.pairs j b hj
      obtain ⟨u, hu, ru⟩ := r1.get q1
      obtain ⟨v, hv, rv⟩ := r2.get q2
      rw [List.getElem?_toArray, hu] at e1
      rw [List.getElem?_toArray, hv] at e2
      cases e1
      cases e2
      exact ⟨by show 2 ≤ sizeLine; decide, [x, y], .cons ru (.cons rv .nil), ⟨_, e3, rfl, _, rfl⟩⟩
    · by_cases hb2 : b = S
      · subst hb2
        rw [atS] at q
        cases q
        exact ⟨by rw [List.length_map, sizeLine_eq]; omega, acc.toList, c, by rw [ha]; exact LiI.vals_refs as, by rw [Array.toArray_toList]; exact eS⟩
      · rw [off b hb hb2] at q
        exact (I.hok b u q).stay (fun d v _ y => kp d v y) (fun d y => keep d _ y) fun d xs y => keep d _ y
theorem pe_listZip {e e2 : Expr} {ta : TA} {p p2 pos pos2 : Pos} (hc : X.calm = true) (hg : Gl X "list") (hm : X.mg "list" = none) (hg2 : Gl X "zip") (hm2 : X.mg "zip" = none) (ha : PA X [e, e2] ta)
    (hs : starEach [e, e2] X.env = (false, eval e X.env) :: starEach [e2] X.env := by rfl) (hpl : (backTo pos2 (starEach [e2] X.env)).any (·.1) = false := by rfl)
    (hs1 : starEach [.Call (.Name "zip" p2) [e, e2] [] pos2] X.env = [(false, eval (.Call (.Name "zip" p2) [e, e2] [] pos2) X.env)] := by rfl) :
    PE X (.Call (.Name "list" p) [.Call (.Name "zip" p2) [e, e2] [] pos2] [] pos) (tListZip X.K ta) := by
  refine ⟨fun pins s σ H Q I h => ?_⟩
  refine wpAny_Call_Name_kw (ld_blt I hg hm rfl ?_)
  refine PyProof.Rows.callWith_type1 (Calls.spliced_cons ?_) hs1
  refine Call_ (ld_blt I hg2 hm2 PyProof.Rows.boot_zip (PyProof.Rows.callWith_type1 (thn (ha.run pos2 pins s σ H _ I h) fun us s1 ⟨vs, H1, I1, r1, q1⟩ => ?_) hs hpl))
  obtain ⟨a, b, xs, ys, rfl, hq1, hq2, hxy, hn, q⟩ := q1
  cases r1 with
  | cons r rr =>
    cases rr with
    | cons r' rr =>
      cases rr
      cases r
      cases r'
      obtain ⟨its, rv, p1, _⟩ := I1.list hq1
      obtain ⟨its2, rv2, p2, _⟩ := I1.list hq2
      have z1 := rv.length
      have z2 := rv2.length
      refine call_zip_2 p1.isList p2.isList fun h' hz hTI hTO h1 h2 hsz hkp => Calls.spliced_nil ?_
      refine zl_call (s := { s1 with heap := h' }) (Z := ⟨s1.heap.objs.size + 4, s1.heap.objs.size + 2, s1.heap.objs.size + 3, s1.heap.objs.size, s1.heap.objs.size + 1, a, b⟩) (xs := its.toArray) (ys := its2.toArray) (I1.ok.hd hc) (PySem.W.ktu_apart s1.heap.objs.size a b p1.lt p2.lt) (by rw [List.size_toArray, sizeLine_eq]; omega) (by rw [List.size_toArray, List.size_toArray]; omega) hz hTI ⟨_, _, hTO⟩ h1 h2 (p1.isList.at fun o e => hkp _ o e) (p2.isList.at fun o e => hkp _ o e) fun h2 tk acc c as k1 k2 k3 k4 k5 => ?_
      have kp : ∀ b o, s1.heap.get? b = some o → h2.get? b = some o := fun b o e => k1 b o (by
        have := Heap.lt_size e
        exact ⟨Nat.ne_of_lt (Nat.lt_of_lt_of_le this (Nat.le_add_right ..)), Nat.ne_of_lt (Nat.lt_of_lt_of_le this (Nat.le_add_right ..)), Nat.ne_of_lt this, Nat.ne_of_lt (Nat.lt_succ_of_lt this)⟩) (hkp b o e)
      obtain ⟨H', f1, f2, f3, f4, f5⟩ := zl_laid (tk := tk) I1 kp (show s1.heap.objs.size ≤ h'.objs.size by omega) k2 (by rw [k3, List.size_toArray]; omega) hxy hn k4 k5 rv rv2
      exact ⟨.ref _, H', f5, rfl, q H' _ as f1 f2 f3 f4⟩
end
end K3

/-! for a, b, c in zip(three lists) -/
namespace K3
open PySem PySem.Spec PyProof.Rows L2
/-- the three lists as they stand at each turn, the items in new triples -/
def It3 (K : PySem.W.Frag) (a b c : Addr) (n : Nat) : It :=
  ⟨fun i H => ∃ xs ys zs : List V, SqL K H a xs ∧ SqL K H b ys ∧ SqL K H c zs ∧ xs.length = n ∧ ys.length = n ∧ zs.length = n ∧ i < n,
    fun i H v H' => ∃ t x y z, v = .ref t ∧ H t = none ∧ H' = upd H t (.tup [x, y, z]) ∧ (∀ xs, SqL K H a xs → xs[i]? = some x) ∧ (∀ ys, SqL K H b ys → ys[i]? = some y) ∧ ∀ zs, SqL K H c zs → zs[i]? = some z,
    fun i H => ∃ xs ys zs : List V, SqL K H a xs ∧ SqL K H b ys ∧ SqL K H c zs ∧ xs.length = n ∧ ys.length = n ∧ zs.length = n ∧ n ≤ i⟩
theorem sep3 {p a b c : Nat} (ha : a < p) (hb : b < p) (hc : c < p) : ZipSep3 (p + 5) (p + 3) (p + 4) p (p + 1) (p + 2) [p, a] [p + 1, b] [p + 2, c] := by
  have nn : ∀ {x y : Nat}, x ≠ y → (x : Addr) ≠ y := fun h => h
  constructor
  all_goals try simp only [List.mem_cons, List.not_mem_nil, or_false, not_or]
  all_goals first
    | exact nn (by omega)
    | exact True.intro
    | exact ⟨nn (by omega), nn (by omega)⟩
    | exact .inl True.intro
abbrev z3 (p : Nat) : List Addr := [p + 5, p + 3, p + 4, p, p + 1, p + 2]
theorem in_z3 {p c : Nat} (h : c ∈ z3 p) : p ≤ c := by
  simp only [List.mem_cons, List.not_mem_nil, or_false] at h
  rcases h with h | h | h | h | h | h
  all_goals rw [h]
  all_goals first
    | exact Nat.le_refl _
    | exact Nat.le_add_right ..
theorem turn_zip3 {P : Program} {w : World} {K : PySem.W.Frag} {elts : List Expr} {kk : Nat} {tpos : Pos} {a b c p n : Nat} (la : a < p) (lb : b < p) (lc : c < p) :
    Turn P w K (.Tuple elts kk tpos) (It3 K a b c n) (z3 p) (p + 5) (fun i h => i ≤ n ∧ IsZip h (p + 5) (p + 3) (p + 4) .none ∧ IsTupOf3 h (p + 3) (.ref p) (.ref (p + 1)) (.ref (p + 2)) ∧ (∃ x y z, IsTupOf3 h (p + 4) x y z) ∧ h.IsListIter p a i ∧ h.IsListIter (p + 1) b i ∧ h.IsListIter (p + 2) c i) where
  mem := by simp
  obj := fun i h st q hq => by
    obtain ⟨hin, hz, hti, ⟨x, y, z, hto⟩, ⟨o1, e1, _, d1⟩, ⟨o2, e2, _, d2⟩, ⟨o3, e3, _, d3⟩⟩ := st
    have hq : q = p + 5 ∨ q = p + 3 ∨ q = p + 4 ∨ q = p ∨ q = p + 1 ∨ q = p + 2 := by simpa using hq
    rcases hq with e | e | e | e | e | e
    all_goals rw [e]
    · exact ⟨_, hz, fun v q => nomatch q⟩
    · exact ⟨_, hti, fun v q => nomatch q⟩
    · exact ⟨_, hto, fun v q => nomatch q⟩
    · exact ⟨o1, e1, fun v q => by rw [d1] at q; cases q⟩
    · exact ⟨o2, e2, fun v q => by rw [d2] at q; cases q⟩
    · exact ⟨o3, e3, fun v q => by rw [d3] at q; cases q⟩
  keep := fun i h h' st k => by
    obtain ⟨hin, hz, hti, ⟨x, y, z, hto⟩, h1, h2, h3⟩ := st
    exact ⟨hin, k _ (by simp) _ hz, k _ (by simp) _ hti, ⟨x, y, z, k _ (by simp) _ hto⟩, h1.at fun o q => k _ (by simp) o q, h2.at fun o q => k _ (by simp) o q, h3.at fun o q => k _ (by simp) o q⟩
  item := by
    intro X hP hw hK hc i pins s σ H E I hf st hg
    subst hP hw hK
    obtain ⟨hin, hz, hti, ⟨x0, y0, z0, hto⟩, h1, h2, h3⟩ := st
    obtain ⟨xs, ys, zs, q1, q2, q3, m1, m2, m3, hi⟩ := hg
    obtain ⟨x, e1⟩ : ∃ x, xs[i]? = some x := ⟨xs[i]'(by omega), List.getElem?_eq_getElem _⟩
    obtain ⟨y, e2⟩ : ∃ x, ys[i]? = some x := ⟨ys[i]'(by omega), List.getElem?_eq_getElem _⟩
    obtain ⟨z, e3⟩ : ∃ x, zs[i]? = some x := ⟨zs[i]'(by omega), List.getElem?_eq_getElem _⟩
    obtain ⟨i1, v1, p1, _⟩ := I.list q1
    obtain ⟨i2, v2, p2, _⟩ := I.list q2
    obtain ⟨i3, v3, p3, _⟩ := I.list q3
    have n1 := v1.length
    have n2 := v2.length
    have n3 := v3.length
    have b1 := (List.getElem?_eq_some_iff.mp e1).1
    have b2 := (List.getElem?_eq_some_iff.mp e2).1
    have b3 := (List.getElem?_eq_some_iff.mp e3).1
    have nn : ∀ {x y : Nat}, x ≠ y → (x : Addr) ≠ y := fun h => h
    have hd := I.ok.hd hc
    have zl : p + 5 < s.heap.objs.size := Heap.lt_size hz
    refine wpAny_pyNext_zipD3_item (sep3 la lb lc) (Draws.list (A := X.A.in1) hd p a (Nat.ne_of_lt la) i1.toArray) (Draws.list (A := X.A.in1) hd (p + 1) b (Nat.ne_of_lt (Nat.lt_succ_of_lt lb)) i2.toArray) (Draws.list (A := X.A.in1) hd (p + 2) c (Nat.ne_of_lt (Nat.lt_succ_of_lt (Nat.lt_succ_of_lt lc))) i3.toArray) hz hti hto
      ⟨h1, p1.isList⟩ ⟨h2, p2.isList⟩ ⟨h3, p3.isList⟩ (by rw [List.size_toArray]; omega) (by rw [List.size_toArray]; omega) (by rw [List.size_toArray]; omega) fun u1 u2 u3 h' tk f1 f2 f3 z' to' s1 s2 s3 ht hsz hk => ?_
    refine ⟨_, rfl, wpAny_letOwnedTupleGo_zip (s := { s with heap := h', toks := tk }) z' fun h'' z'' sb => ?_⟩
    have ht2 : h''.get? s.heap.objs.size = some { cls := .type "tuple", data := .seq #[u1, u2, u3] } := (sb.2 _ (Nat.ne_of_gt zl)).trans ht
    obtain ⟨w1, hw1, r1⟩ := v1.get e1
    obtain ⟨w2, hw2, r2⟩ := v2.get e2
    obtain ⟨w3, hw3, r3⟩ := v3.get e3
    rw [List.getElem?_toArray] at f1 f2 f3
    rw [hw1] at f1
    rw [hw2] at f2
    rw [hw3] at f3
    cases f1
    cases f2
    cases f3
    have new : ObjOk X.prog X.w (upd H s.heap.objs.size (.tup [x, y, z])) h'' s.heap.objs.size (.tup [x, y, z]) := ⟨by show 3 ≤ sizeLine; decide, [u1, u2, u3], .cons r1 (.cons r2 (.cons r3 .nil)), ⟨_, ht2, rfl, _, rfl⟩⟩
    have I1 : Inv X pins σ (upd H s.heap.objs.size (.tup [x, y, z])) { s with heap := h'', toks := tk } := I.turnedNew (ch := z3 p) (fun q o hb e => (sb.2 q (fun z => hb (by simp [z]))).trans (hk q o (fun z => hb (by simp [z])) (fun z => hb (by simp [z])) (fun z => hb (by simp [z])) (fun z => hb (by simp [z])) (fun z => hb (by simp [z])) e)) hf (Nat.le_refl _) new
    refine ⟨.ref s.heap.objs.size, _, I1, rfl, ⟨_, x, y, z, rfl, I.hok.fresh (Nat.le_refl _), rfl, fun l hl => by rw [I.list_inj hl q1]; exact e1, fun l hl => by rw [I.list_inj hl q2]; exact e2, fun l hl => by rw [I.list_inj hl q3]; exact e3⟩, ⟨hi, z'', ?_, ⟨u1, u2, u3, ?_⟩, ?_, ?_, ?_⟩, fun q hq => ?_⟩
    · exact (sb.2 _ (nn (by omega))).trans (hk _ _ (nn (by omega)) (nn (by omega)) (nn (by omega)) (nn (by omega)) (nn (by omega)) hti)
    · exact (sb.2 _ (nn (by omega))).trans to'
    · exact s1.1.at fun o q => (sb.2 _ (nn (by omega))).trans q
    · exact s2.1.at fun o q => (sb.2 _ (nn (by omega))).trans q
    · exact s3.1.at fun o q => (sb.2 _ (nn (by omega))).trans q
    · have hlt : q < s.heap.objs.size := by
        have hq : q = p + 5 ∨ q = p + 3 ∨ q = p + 4 ∨ q = p ∨ q = p + 1 ∨ q = p + 2 := by simpa using hq
        rcases hq with e | e | e | e | e | e
        all_goals rw [e]
        · exact zl
        · exact Nat.lt_of_le_of_lt (Nat.add_le_add_left (by decide) p) zl
        · exact Nat.lt_of_le_of_lt (Nat.add_le_add_left (by decide) p) zl
        · exact Nat.lt_of_le_of_lt (Nat.le_add_right ..) zl
        · exact Nat.lt_of_le_of_lt (Nat.add_le_add_left (by decide) p) zl
        · exact Nat.lt_of_le_of_lt (Nat.add_le_add_left (by decide) p) zl
      rw [upd_ne (Nat.ne_of_lt hlt)]
      exact (hf q hq).1
  done := by
    intro X hP hw hK hc i pins s σ H E I hf st hg
    subst hP hw hK
    obtain ⟨hin, hz, hti, ⟨x0, y0, z0, hto⟩, h1, h2, h3⟩ := st
    obtain ⟨xs, ys, zs, q1, q2, q3, e1, e2, e3, hi⟩ := hg
    obtain ⟨i1, v1, p1, _⟩ := I.list q1
    obtain ⟨i2, v2, p2, _⟩ := I.list q2
    obtain ⟨i3, v3, p3, _⟩ := I.list q3
    have n1 := v1.length
    have n2 := v2.length
    have n3 := v3.length
    have hd := I.ok.hd hc
    exact wpAny_pyNext_zipD3_end (sep3 la lb lc) (Draws.list (A := X.A.in1) hd p a (Nat.ne_of_lt la) i1.toArray) (Draws.list (A := X.A.in1) hd (p + 1) b (Nat.ne_of_lt (Nat.lt_succ_of_lt lb)) i2.toArray) (Draws.list (A := X.A.in1) hd (p + 2) c (Nat.ne_of_lt (Nat.lt_succ_of_lt (Nat.lt_succ_of_lt lc))) i3.toArray) hz hti hto
      ⟨h1, p1.isList⟩ ⟨h2, p2.isList⟩ ⟨h3, p3.isList⟩ (by rw [List.size_toArray]; omega) (by rw [List.size_toArray]; omega) (by rw [List.size_toArray]; omega) (.inl (by rw [List.size_toArray]; omega)) fun h' tk hk => ⟨rfl, I.turnedL (ch := z3 p) (fun q o hb e => hk q o (fun z => hb (by simp [z])) (fun z => hb (by simp [z])) (fun z => hb (by simp [z])) (fun z => hb (by simp [z])) (fun z => hb (by simp [z])) e) hf⟩
  self := fun A i s Q E st h => wpAny_pyIter_zip st.2.1 h
def iZip3 (K : PySem.W.Frag) (ta : TA) : TI := fun σ H R => ta σ H fun vs H1 => ∃ a b c xs ys zs, vs = [.ref a, .ref b, .ref c] ∧ SqL K H1 a xs ∧ SqL K H1 b ys ∧ SqL K H1 c zs ∧ ys.length = xs.length ∧ zs.length = xs.length ∧ R (It3 K a b c xs.length) H1
theorem pi_zip3 {X : Cx} {e e2 e3 : Expr} {ta : TA} {p pos tpos : Pos} {elts : List Expr} {kk : Nat} (hg : Gl X "zip") (hm : X.mg "zip" = none) (ha : PA X [e, e2, e3] ta)
    (hs : starEach [e, e2, e3] X.env = (false, eval e X.env) :: starEach [e2, e3] X.env := by rfl) (hpl : (backTo pos (starEach [e2, e3] X.env)).any (·.1) = false := by rfl) : PI X (.Tuple elts kk tpos) (.Call (.Name "zip" p) [e, e2, e3] [] pos) (iZip3 X.K ta) := by
  refine ⟨fun pins s σ H R I h => ?_⟩
  refine Call_ (ld_blt I hg hm PyProof.Rows.boot_zip (PyProof.Rows.callWith_type1 (thn (ha.run pos pins s σ H _ I h) fun us s1 ⟨vs, H1, I1, r1, q0⟩ => ?_) hs hpl))
  obtain ⟨a, b, c, xs, ys, zs, rfl, q1, q2, q3, _, _, q⟩ := q0
  cases r1 with
  | cons r rr =>
    cases rr with
    | cons r' rr =>
      cases rr with
      | cons r'' rr =>
        cases rr
        cases r
        cases r'
        cases r''
        obtain ⟨i1, v1, p1, _⟩ := I1.list q1
        obtain ⟨i2, v2, p2, _⟩ := I1.list q2
        obtain ⟨i3, v3, p3, _⟩ := I1.list q3
        refine zip_begins3 (begins_list a i1.toArray) (begins_list b i2.toArray) (begins_list c i3.toArray) p1.isList p2.isList p3.isList fun h' hz hti hto h1 h2 h3 hsz hk => wpAny_pyIter_zip hz ?_
        refine ⟨s1.heap.objs.size + 5, z3 s1.heap.objs.size, _, _, H1, rfl, I1.kept (t' := s1.toks) hk, turn_zip3 p1.lt p2.lt p3.lt, ⟨Nat.zero_le _, hz, hti, ⟨_, _, _, hto⟩, ⟨_, h1, rfl, rfl⟩, ⟨_, h2, rfl, rfl⟩, ⟨_, h3, rfl, rfl⟩⟩, fun q hq => ?_, q⟩
        exact I1.fpOk (in_z3 hq) (I1.hok.fresh (in_z3 hq))
section
variable {T : Tbl} {K : PySem.W.Frag} {a b c : Addr} {xs ys zs : List V}
theorem it_zip3 (h1 : ys.length = xs.length) (h2 : zs.length = xs.length) : Items T (It3 K a b c xs.length) xs.length (fun H => SqL K H a xs ∧ SqL K H b ys ∧ SqL K H c zs) (fun i v H => ∃ q x y z, v = .ref q ∧ H q = some (.tup [x, y, z]) ∧ xs[i]? = some x ∧ ys[i]? = some y ∧ zs[i]? = some z) := by
  refine ⟨fun i H k h => ⟨xs, ys, zs, k.1, k.2.1, k.2.2, rfl, h1, h2, h⟩, fun i H k h => ⟨xs, ys, zs, k.1, k.2.1, k.2.2, rfl, h1, h2, h⟩, fun i v H H' k h y => ?_⟩
  obtain ⟨q, x, y, z, rfl, hq, rfl, y1, y2, y3⟩ := y
  exact ⟨Go.new hq, q, x, y, z, rfl, upd_same, y1 xs k.1, y2 ys k.2.1, y3 zs k.2.2⟩
end
end K3

/-! ranges that the points tell -/
namespace K3
open PySem PySem.Spec PyProof.Rows L2
def rowOf (ns : List Nat) (R : Rg) : List Bool := ns.map fun y => inR y R
theorem rowOf_len {ns : List Nat} {R : Rg} : (rowOf ns R).length = ns.length := List.length_map ..
/-- the points tell the range -/
def OnPts (ns : List Nat) (R : Rg) : Prop := Can 0 R ∧ ∀ x, inR x R = atF ns (rowOf ns R) x
/-- points in order, from 0 -/
structure PtsN (ns : List Nat) : Prop where
  asc : Asc ns
  head : ns.head? = some 0
  few : ns.length ≤ 49
theorem PtsN.ne {ns : List Nat} (h : PtsN ns) : ns ≠ [] := fun e => by
  have := h.head
  rw [e] at this
  cases this
theorem on_eq {ns : List Nat} {R : Rg} (P : PtsN ns) (h : OnPts ns R) : rbF [] ns (rowOf ns R) = R := by
  obtain ⟨c, e⟩ := rbF_ok (rowOf_len (R := R)) P.asc P.head
  exact can_uniq c h.1 fun x => by rw [e, h.2]
theorem on_len {ns : List Nat} {R : Rg} (P : PtsN ns) (h : OnPts ns R) : R.length ≤ 49 := by
  have e := rbF_len (rowOf_len (R := R)) P.asc
  rw [on_eq P h] at e
  exact Nat.le_trans e P.few
theorem on_init {ns : List Nat} {R : Rg} (P : PtsN ns) (c : Can 0 R) (h : ∀ e ∈ endsOf R, e ∈ ns) : OnPts ns R := ⟨c, fun x => row_of P.asc P.head h x⟩
theorem zip_map {α : Type} (f : Bool → Bool → Bool) (g h : α → Bool) : ∀ l : List α, List.zipWith f (l.map g) (l.map h) = l.map fun y => f (g y) (h y)
  | [] => rfl
  | x :: l => congrArg (f (g x) (h x) :: ·) (zip_map f g h l)
theorem row_two {ns : List Nat} {R S D : Rg} {f : Bool → Bool → Bool} (h : ∀ x, inR x D = f (inR x R) (inR x S)) : rowOf ns D = List.zipWith f (rowOf ns R) (rowOf ns S) := by
  unfold rowOf
  rw [zip_map]
  exact List.map_congr_left fun x _ => h x
theorem on_two {ns : List Nat} {R S D : Rg} {f : Bool → Bool → Bool} (P : PtsN ns) (hR : OnPts ns R) (hS : OnPts ns S) (c : Can 0 D) (h : ∀ x, inR x D = f (inR x R) (inR x S)) : OnPts ns D := ⟨c, fun x => by
  rw [row_two h, atF_zip f ns _ _ x rowOf_len rowOf_len P.ne, h, hR.2, hS.2]⟩
theorem row_not {ns : List Nat} {R D : Rg} (h : ∀ x, inR x D = !inR x R) : rowOf ns D = (rowOf ns R).map (!·) := by
  unfold rowOf
  rw [List.map_map]
  exact List.map_congr_left fun x _ => h x
theorem on_not {ns : List Nat} {R D : Rg} (P : PtsN ns) (hR : OnPts ns R) (c : Can 0 D) (h : ∀ x, inR x D = !inR x R) : OnPts ns D := ⟨c, fun x => by
  rw [row_not h, atF_map (!·) ns _ x rowOf_len P.ne, h, hR.2]⟩
/-- two ranges and their rows -/
theorem on_same {ns : List Nat} {R S : Rg} (P : PtsN ns) (hR : OnPts ns R) (hS : OnPts ns S) : R = S ↔ rowOf ns R = rowOf ns S :=
  ⟨fun h => by rw [h], fun h => by rw [← on_eq P hR, ← on_eq P hS, h]⟩
theorem row_at {ns : List Nat} {R : Rg} {i n : Nat} (h : ns[i]? = some n) : (rowOf ns R)[i]? = some (inR n R) := by
  unfold rowOf
  rw [List.getElem?_map, h]
  rfl
theorem atF_in : ∀ (ns : List Nat) (rs : List Bool) (x : Nat), rs.length = ns.length → ns ≠ [] → atF ns rs x = true → true ∈ rs
  | [], _, _, _, h, _ => (h rfl).elim
  | [p], r :: rs, x, hl, _, h => by
    have h : r = true := h
    rw [h]
    exact List.mem_cons_self ..
  | p :: q :: ps, r :: rs, x, hl, _, h => by
    have h : (if x < q then r else atF (q :: ps) rs x) = true := h
    split at h
    · rw [h]
      exact List.mem_cons_self ..
    · exact List.mem_cons_of_mem _ (atF_in (q :: ps) rs x (by simpa using hl) (by simp) h)
  | _ :: _, [], _, hl, _, _ => by simp at hl
/-- within, told by the points -/
theorem on_within {ns : List Nat} {R S : Rg} (P : PtsN ns) (hR : OnPts ns R) (hS : OnPts ns S) : (∀ x, inR x R = true → inR x S = true) ↔ ∀ n ∈ ns, (inR n R && !inR n S) = false := by
  refine ⟨fun h n _ => ?_, fun h x hx => ?_⟩
  · cases hr : inR n R with
    | false => rfl
    | true => rw [h n hr]; rfl
  · have e := atF_zip (fun a b => a && !b) ns (rowOf ns R) (rowOf ns S) x rowOf_len rowOf_len P.ne
    rw [← hR.2, ← hS.2] at e
    cases hs : inR x S with
    | true => rfl
    | false =>
      rw [hx, hs] at e
      have m := atF_in ns _ x (by rw [List.length_zipWith, rowOf_len, rowOf_len, Nat.min_self]) P.ne e
      unfold rowOf at m
      rw [zip_map] at m
      obtain ⟨n, hn, e2⟩ := List.mem_map.mp m
      rw [h n hn] at e2
      cases e2
/-- the least version where two differ -/
theorem on_first {ns : List Nat} {R S D : Rg} (P : PtsN ns) (hR : OnPts ns R) (hS : OnPts ns S) (c : Can 0 D) (h : ∀ x, inR x D = (inR x R != inR x S)) : D.head?.map (·.1) = (ns.filter fun n => inR n R != inR n S).head? := by
  have o := on_two (f := fun a b => a != b) P hR hS c h
  have e := least_first (rowOf_len (R := D)) P.asc P.head c o.2
  rw [e]
  have g : ∀ l : List Nat, firstT l (rowOf l D) = (l.filter fun n => inR n R != inR n S).head? := by
    intro l
    induction l with
    | nil => rfl
    | cons n l ih =>
      show (if inR n D = true then some n else firstT l (rowOf l D)) = _
      rw [ih, h, List.filter_cons]
      split <;> rfl
  exact g ns
theorem on_none {ns : List Nat} {R S : Rg} (P : PtsN ns) (hR : OnPts ns R) (hS : OnPts ns S) : R = S ↔ (ns.filter fun n => inR n R != inR n S) = [] := by
  rw [on_same P hR hS, List.filter_eq_nil_iff]
  unfold rowOf
  rw [List.map_inj_left]
  refine ⟨fun h n hn => by rw [h n hn]; simp, fun h n hn => ?_⟩
  have := h n hn
  simpa using this
end K3

namespace K3
open PySem PySem.Spec PyProof.Rows L2
section
variable {K : PySem.W.Frag} {T : Tbl}
theorem zip_bls {rs ss : List Bool} {f : Bool → Bool → Bool} {ys : List V} (hl : ss.length = rs.length) (pr : Paired (fun (i : Nat) y => ∃ x z, rs[i]? = some x ∧ ss[i]? = some z ∧ y = V.bl (f x z)) (List.range rs.length) ys) : ys = (List.zipWith f rs ss).map V.bl := by
  have lz : ys.length = rs.length := by rw [Paired.lenEq pr, List.length_range]
  refine List.ext_getElem? fun i => ?_
  rw [List.getElem?_map, List.getElem?_zipWith]
  by_cases h : i < rs.length
  · have e : ys[i]? = some (ys[i]'(by omega)) := List.getElem?_eq_getElem (by omega)
    obtain ⟨x, z, e1, e2, e3⟩ := Paired.all pr i i _ (by rw [List.getElem?_range h]) e
    rw [e, e1, e2, e3]
    rfl
  · rw [List.getElem?_eq_none (by omega), List.getElem?_eq_none (by omega)]
    rfl
/-- [te for x, y in pairs] -/
theorem row_lc {o0 o1 o2 o3 o4 o5 o6 : Option V} {te : TE} {Q : VK} {H : Hp} {p : Addr} {ts : List Addr} {rs ss : List Bool} (f : Bool → Bool → Bool) (hl : ss.length = rs.length) (hn : rs.length ≤ 1000) (hp : H p = some (.lst (ts.map V.ref))) (pr : Paired (fun t q => H t = some (.tup [q.1, q.2])) ts ((rs.map V.bl).zip (ss.map V.bl)))
    (hte : ∀ x y H' Q', Q' (V.bl (f x y)) H' → te [o0, o1, o2, o3, o4, o5, o6, some (.bl x), some (.bl y)] H' Q') (hd : ∀ q H', H q = none → Go T [] H H' → H' q = some (.lst ((List.zipWith f rs ss).map V.bl)) → Q (.ref q) H') :
    LcW (Itl K p) (gTup K 2 (gCons (gName 7) (gCons (gName 8) gNil))) tYes te [7, 8] Q [o0, o1, o2, o3, o4, o5, o6, none, none] H := by
  have lt : ts.length = rs.length := by
    rw [← Paired.lenEq pr, List.length_zip, List.length_map, List.length_map]
    omega
  refine lc_go (T := T) (M := []) (it_lst (xs := ts.map V.ref)) (fun _ => true) (fun i y _ => ∃ x z, rs[i]? = some x ∧ ss[i]? = some z ∧ y = .bl (f x z)) (fun _ _ => True) (by rw [sizeLine_eq, List.length_map]; omega) (fun b m => by cases m)
    (fun q H' hq g => .of (g.lst hp (by simp only [List.mem_singleton]; rintro rfl; rw [hp] at hq; cases hq))) (fun i y q H' H'' _ _ e => e) (fun i x H' Kc Kn hi g it kc _ => ?_) fun q ys H1 hq g1 hl1 prs => ?_
  · rw [List.length_map] at hi
    rw [List.getElem?_map, List.getElem?_eq_getElem hi] at it
    obtain rfl := Option.some.inj it
    have e1 : rs[i]? = some (rs[i]'(by omega)) := List.getElem?_eq_getElem (by omega)
    have e2 : ss[i]? = some (ss[i]'(by omega)) := List.getElem?_eq_getElem (by omega)
    have ht := Paired.all pr i _ (.bl rs[i], .bl ss[i]) (List.getElem?_eq_getElem hi) (List.getElem?_zip_eq_some.mpr ⟨by rw [List.getElem?_map, e1]; rfl, by rw [List.getElem?_map, e2]; rfl⟩)
    exact ⟨_, _, rfl, .of (g.tup _ _ ht), rfl, _, _, rfl, _, _, rfl, rfl, rfl, lc_yes (hte _ _ _ _ (kc _ _ rfl Go.refl ⟨_, _, e1, e2, rfl⟩ fun _ _ _ => trivial))⟩
  · rw [keep_all, List.length_map, lt] at prs
    rw [zip_bls hl prs] at hl1
    exact hd q H1 hq g1 hl1
/-- [not x for x in row] -/
theorem not_lc {o0 o1 o2 o3 o4 o5 o6 o8 : Option V} {te : TE} {Q : VK} {H : Hp} {p : Addr} {rs : List Bool} (f : Bool → Bool) (hn : rs.length ≤ 1000) (hp : H p = some (.lst (rs.map V.bl)))
    (hte : ∀ x H' Q', Q' (V.bl (f x)) H' → te [o0, o1, o2, o3, o4, o5, o6, some (.bl x), o8] H' Q') (hd : ∀ q H', H q = none → Go T [] H H' → H' q = some (.lst ((rs.map f).map V.bl)) → Q (.ref q) H') :
    LcW (Itl K p) (gName 7) tYes te [7] Q [o0, o1, o2, o3, o4, o5, o6, none, o8] H := by
  refine lc_go (T := T) (M := []) (it_lst (xs := rs.map V.bl)) (fun _ => true) (fun i y _ => ∃ x, rs[i]? = some x ∧ y = .bl (f x)) (fun _ _ => True) (by rw [sizeLine_eq, List.length_map]; omega) (fun b m => by cases m)
    (fun q H' hq g => .of (g.lst hp (by simp only [List.mem_singleton]; rintro rfl; rw [hp] at hq; cases hq))) (fun i y q H' H'' _ _ e => e) (fun i x H' Kc Kn hi g it kc _ => ?_) fun q ys H1 hq g1 hl1 prs => ?_
  · rw [List.length_map] at hi
    rw [List.getElem?_map, List.getElem?_eq_getElem hi] at it
    obtain rfl := Option.some.inj it
    exact ⟨rfl, lc_yes (hte _ _ _ (kc _ _ rfl Go.refl ⟨_, List.getElem?_eq_getElem hi, rfl⟩ fun _ _ _ => trivial))⟩
  · rw [keep_all, List.length_map] at prs
    have e : ys = (rs.map f).map V.bl := by
      have lz : ys.length = rs.length := by rw [Paired.lenEq prs, List.length_range]
      refine List.ext_getElem? fun i => ?_
      rw [List.getElem?_map, List.getElem?_map]
      by_cases h : i < rs.length
      · have e : ys[i]? = some (ys[i]'(by omega)) := List.getElem?_eq_getElem (by omega)
        obtain ⟨x, e1, e3⟩ := Paired.all prs i i _ (by rw [List.getElem?_range h]) e
        rw [e, e1, e3]
        rfl
      · rw [List.getElem?_eq_none (by omega), List.getElem?_eq_none (by omega)]
        rfl
    rw [e] at hl1
    exact hd q H1 hq g1 hl1
end
end K3

namespace K3
open PySem PySem.Spec PyProof.Rows L2
abbrev IsRow (ns : List Nat) (H : Hp) (l : V) (R : Rg) : Prop := ∃ q, l = .ref q ∧ H q = some (.lst ((rowOf ns R).map V.bl))
/-- the ranges found and their rows -/
structure Held (K : PySem.W.Frag) (H : Hp) (F L : Addr) (ns : List Nat) (fs ls : List V) (Rs : List Rg) : Prop where
  atF : H F = some (.lst fs)
  atL : H L = some (.lst ls)
  pf : Paired (IsR (SqT K H)) fs Rs
  pl : Paired (IsRow ns H) ls Rs
  on : ∀ R ∈ Rs, OnPts ns R
  pos : 1 ≤ fs.length
  few : fs.length ≤ 100
theorem row_ne {H : Hp} {B C q : Addr} {l : List Bool} (hb : IsBag H B C) (h : H q = some (.lst (l.map V.bl))) : q ≠ B := fun e => by
  obtain ⟨a, s, i, ns, h1, _⟩ := hb.ex
  rw [e, h1] at h
  injection h with h
  injection h with h
  cases l with
  | nil => cases h
  | cons b l => cases h
theorem row_neC {H : Hp} {B C q : Addr} {l : List Bool} (hb : IsBag H B C) (hl : l ≠ []) (h : H q = some (.lst (l.map V.bl))) : q ≠ C := fun e => by
  obtain ⟨a, s, i, ns, _, h1, _⟩ := hb.ex
  rw [e, h1] at h
  injection h with h
  injection h with h
  cases l with
  | nil => exact hl rfl
  | cons b l =>
    cases ns with
    | nil => cases h
    | cons n ns => cases h
theorem refs_ne {H : Hp} {B C q p : Addr} {xs : List V} (hb : IsBag H B C) (h : H q = some (.lst (V.ref p :: xs))) : q ≠ B := fun e => by
  obtain ⟨a, s, i, ns, h1, _⟩ := hb.ex
  rw [e, h1] at h
  cases h
theorem Held.apart {K : PySem.W.Frag} {H : Hp} {F L B C : Addr} {ns : List Nat} {fs ls : List V} {Rs : List Rg} (h : Held K H F L ns fs ls Rs) (hb : IsBag H B C) : F ≠ B ∧ L ≠ B := by
  have h1 := h.pos
  have e1 := Paired.lenEq h.pf
  have e2 := Paired.lenEq h.pl
  constructor
  · cases fs with
    | nil => simp at h1
    | cons f fs =>
      cases h.pf with
      | cons a r =>
        obtain ⟨p, xs, rfl, _⟩ := a
        exact refs_ne hb h.atF
  · cases ls with
    | nil => rw [e1, List.length_nil] at e2; omega
    | cons f fs =>
      cases h.pl with
      | cons a r =>
        obtain ⟨p, rfl, _⟩ := a
        exact refs_ne hb h.atL
theorem Held.go {T : Tbl} {M : List Addr} {K : PySem.W.Frag} {H H1 : Hp} {F L : Addr} {ns : List Nat} {fs ls : List V} {Rs : List Rg} (h : Held K H F L ns fs ls Rs) (g : Go T M H H1) (hF : F ∉ M) (hL : L ∉ M) (hq : ∀ q ∈ M, ∀ l : List Bool, H q ≠ some (.lst (l.map V.bl))) : Held K H1 F L ns fs ls Rs :=
  ⟨g.lst h.atF hF, g.lst h.atL hL, Paired.mapP h.pf fun _ _ x => x.go g, Paired.mapP h.pl fun _ _ x => (let ⟨q, e, x⟩ := x; ⟨q, e, g.lst x fun m => hq q m _ x⟩), h.on, h.pos, h.few⟩
theorem Held.goB {T : Tbl} {K : PySem.W.Frag} {H H1 : Hp} {F L B C : Addr} {ns : List Nat} {fs ls : List V} {Rs : List Rg} (h : Held K H F L ns fs ls Rs) (hb : IsBag H B C) (g : Go T [B] H H1) : Held K H1 F L ns fs ls Rs :=
  h.go g (by simpa using (h.apart hb).1) (by simpa using (h.apart hb).2) fun q m l e => row_ne hb e (List.mem_singleton.mp m)
theorem Held.go0 {T : Tbl} {K : PySem.W.Frag} {H H1 : Hp} {F L : Addr} {ns : List Nat} {fs ls : List V} {Rs : List Rg} (h : Held K H F L ns fs ls Rs) (g : Go T [] H H1) : Held K H1 F L ns fs ls Rs := h.go g (by simp) (by simp) fun q m => by cases m
/-- what stands at place i -/
theorem Held.at {K : PySem.W.Frag} {H : Hp} {F L : Addr} {ns : List Nat} {fs ls : List V} {Rs : List Rg} {i : Nat} (h : Held K H F L ns fs ls Rs) (hi : i < fs.length) : ∃ v l R, fs[i]? = some v ∧ ls[i]? = some l ∧ IsR (SqT K H) v R ∧ IsRow ns H l R ∧ OnPts ns R := by
  have e1 := Paired.lenEq h.pf
  have e2 := Paired.lenEq h.pl
  have r1 : Rs[i]? = some Rs[i] := List.getElem?_eq_getElem (by omega)
  have r2 : fs[i]? = some fs[i] := List.getElem?_eq_getElem hi
  have r3 : ls[i]? = some (ls[i]'(by omega)) := List.getElem?_eq_getElem (by omega)
  exact ⟨_, _, _, r2, r3, Paired.all h.pf i _ _ r2 r1, Paired.all h.pl i _ _ r3 r1, h.on _ (List.getElem_mem _)⟩
section
variable {P : Program} {w : World} {K : PySem.W.Frag} {mg : Str → Option Value} {base : Heap} {T : Tbl}
def spDeed (T : Tbl) (K : PySem.W.Frag) : Sp := fun vs H Q _ => ∃ (B C F L : Addr) (ns : List Nat) (fs ls : List V) (Rs : List Rg), vs = [.ref B, .ref F, .ref L] ∧ IsBag H B C ∧ Held K H F L ns fs ls Rs ∧ PtsN ns ∧ LamX.Tabs T H ∧
  ∀ t q v R H', Go T [B] H H' → IsBag H' B C → H' t = some (.tup [v, .ref q]) → IsR (SqT K H') v R → H' q = some (.lst ((rowOf ns R).map V.bl)) → OnPts ns R → H q = none → Q (.ref t) H'
theorem ok_l_deed (G : Glo K mg) (D : Top K mg "_law_deed" s_l_deed) (D1 : DefF P w K mg base 1 "_law_take" ["_law_bag_here", "_law_many"] (spTake T)) (D2 : DefF P w K mg base 4 "union" ["one", "other"] (spUnion T K)) (D3 : DefF P w K mg base 5 "meet" ["one", "other"] (spMeet T K))
    (D4 : DefF P w K mg base 6 "without" ["one", "other"] (spWithout T K)) (D5 : DefF P w K mg base 3 "rest" ["one"] (spRest T K)) : DefF P w K mg base 7 "_law_deed" ["_law_bag_here", "_law_found", "_law_truths"] (spDeed T K) := by
  refine def_of D sc_l_deed bd_l_deed (fun vs H Q E ⟨_, _, _, _, _, _, _, _, e, _⟩ => by rw [e]; rfl) ?_
  rintro f_ cdv A outer s H vs Q E hr ⟨B, C, F, L, ns, fs, ls, Rs, rfl, hb, hh, pn, tabs, qq⟩
  refine ⟨_, pss_cons (ps_par3 (i := 3) (j := 4) (l := 5) rfl sc_l_deed.nd rfl rfl rfl (by decide) (by decide) (by decide) rfl rfl rfl
      (pa_cons (pe_D D1 (hr.mono (by decide)) (by rfl) (pa_cons (pv 0) (pa_cons (pe_callB (lenK K) (by rfl) (G.free "len" (by decide +kernel)) rfl (pa_cons (pv 1) pa_nil)) pa_nil)))
      (pa_cons (pe_D D1 (hr.mono (by decide)) (by rfl) (pa_cons (pv 0) (pa_cons (pe_callB (lenK K) (by rfl) (G.free "len" (by decide +kernel)) rfl (pa_cons (pv 1) pa_nil)) pa_nil)))
      (pa_cons (pe_D D1 (hr.mono (by decide)) (by rfl) (pa_cons (pv 0) (pa_cons pe_int pa_nil))) pa_nil))) (by rfl))
    (pss_cons (ps_set (i := 6) sc_l_deed.nd rfl (.inl rfl) (pe_listZip rfl (by rfl) (G.free "list" (by decide +kernel)) (by rfl) (G.free "zip" (by decide +kernel)) (pa_cons (peIx (ixL K) (pv 2) (pv 3)) (pa_cons (peIx (ixL K) (pv 2) (pv 4)) pa_nil))))
    (pss_cons (ps_if (pt_cmpR op_lt (pv 5) pe_int (nomark _)) (pss_one (ps_ret (pe_tup (pa_cons (pe_D D2 (hr.mono (by decide)) (by rfl) (pa_cons (peIx (ixL K) (pv 1) (pv 3)) (pa_cons (peIx (ixL K) (pv 1) (pv 4)) pa_nil)))
      (pa_cons (pe_lcW (own := [("_law_x", 7), ("_law_y", 8)]) sc_l_deed.nd (blkOk_by (N := n_l_deed) (sc := defScope s_l_deed) (by decide +kernel)) (pi_list (pv 6)) (fun s' H' C cl fp => by exact pgT K 2 (pgs_cons (pg_name (i := 7) sc_l_deed.nd rfl (.inl rfl)) (pgs_cons (pg_name (i := 8) sc_l_deed.nd rfl (.inl rfl)) pgs_nil)))
        (fun s' H' C cl fp => pts_nil) (fun s' H' C cl fp => pe_or (pv 7) (pe_one (pv 8)))) pa_nil))))) pss_nil)
    (pss_cons (ps_if (pt_cmpR op_lt (pv 5) pe_int (nomark _)) (pss_one (ps_ret (pe_tup (pa_cons (pe_D D3 (hr.mono (by decide)) (by rfl) (pa_cons (peIx (ixL K) (pv 1) (pv 3)) (pa_cons (peIx (ixL K) (pv 1) (pv 4)) pa_nil)))
      (pa_cons (pe_lcW (own := [("_law_x", 7), ("_law_y", 8)]) sc_l_deed.nd (blkOk_by (N := n_l_deed) (sc := defScope s_l_deed) (by decide +kernel)) (pi_list (pv 6)) (fun s' H' C cl fp => by exact pgT K 2 (pgs_cons (pg_name (i := 7) sc_l_deed.nd rfl (.inl rfl)) (pgs_cons (pg_name (i := 8) sc_l_deed.nd rfl (.inl rfl)) pgs_nil)))
        (fun s' H' C cl fp => pts_nil) (fun s' H' C cl fp => pe_and (pv 7) (pe_one (pv 8)))) pa_nil))))) pss_nil)
    (pss_cons (ps_if (pt_cmpR op_lt (pv 5) pe_int (nomark _)) (pss_one (ps_ret (pe_tup (pa_cons (pe_D D4 (hr.mono (by decide)) (by rfl) (pa_cons (peIx (ixL K) (pv 1) (pv 3)) (pa_cons (peIx (ixL K) (pv 1) (pv 4)) pa_nil)))
      (pa_cons (pe_lcW (own := [("_law_x", 7), ("_law_y", 8)]) sc_l_deed.nd (blkOk_by (N := n_l_deed) (sc := defScope s_l_deed) (by decide +kernel)) (pi_list (pv 6)) (fun s' H' C cl fp => by exact pgT K 2 (pgs_cons (pg_name (i := 7) sc_l_deed.nd rfl (.inl rfl)) (pgs_cons (pg_name (i := 8) sc_l_deed.nd rfl (.inl rfl)) pgs_nil)))
        (fun s' H' C cl fp => pts_nil) (fun s' H' C cl fp => pe_and (pv 7) (pe_one (pe_not (pv 8))))) pa_nil))))) pss_nil)
    (pss_one (ps_ret (pe_tup (pa_cons (pe_D D5 (hr.mono (by decide)) (by rfl) (pa_cons (peIx (ixL K) (pv 1) (pv 3)) pa_nil))
      (pa_cons (pe_lcW (own := [("_law_x", 7)]) sc_l_deed.nd (blkOk_by (N := n_l_deed) (sc := defScope s_l_deed) (by decide +kernel)) (pi_list (peIx (ixL K) (pv 2) (pv 3))) (fun s' H' C cl fp => pg_name (i := 7) sc_l_deed.nd rfl (.inl rfl))
        (fun s' H' C cl fp => pts_nil) (fun s' H' C cl fp => pe_not (pv 7))) pa_nil))))))))), ?_⟩
  have len1 := hh.pos
  have few := hh.few
  refine ⟨.ref B, rfl, .ref F, rfl, .ref F, fs.length, rfl, .inl ⟨fs, .of hh.atF, rfl⟩, ?_⟩
  refine ⟨B, C, fs.length, rfl, hb, len1, by omega, fun a H1 ha g1 b1 => ?_⟩
  have hh1 := hh.goB hb g1
  refine ⟨.ref B, rfl, .ref F, rfl, .ref F, fs.length, rfl, .inl ⟨fs, .of hh1.atF, rfl⟩, ?_⟩
  refine ⟨B, C, fs.length, rfl, b1, len1, by omega, fun b H2 hb2 g2 b2 => ?_⟩
  have hh2 := hh1.goB b1 g2
  refine ⟨.ref B, rfl, B, C, 7, rfl, b2, by omega, by omega, fun way H3 hw g3 b3 => ?_⟩
  have hh3 := hh2.goB b2 g3
  have g03 := (g1.trans g2).trans g3
  have tabs3 := g03.tabs tabs
  obtain ⟨va, la, RA, ea, fa, ira, ⟨qa, rfl, hqa⟩, ona⟩ := hh3.at ha
  obtain ⟨vb, lb, RB, eb, fb, irb, ⟨qb, rfl, hqb⟩, onb⟩ := hh3.at hb2
  have lna := on_len pn ona
  have lnb := on_len pn onb
  refine ⟨_, _, _, rfl, ?_⟩
  refine ⟨.ref L, rfl, _, rfl, L, ls, (a : Int), _, rfl, rfl, .of hh3.atL, atN fa, ?_⟩
  refine ⟨.ref L, rfl, _, rfl, L, ls, (b : Int), _, rfl, rfl, .of hh3.atL, atN fb, ?_⟩
  refine ⟨qa, qb, (rowOf ns RA).map V.bl, (rowOf ns RB).map V.bl, rfl, .of hqa, .of hqb, by rw [List.length_map, List.length_map, rowOf_len, rowOf_len], by rw [List.length_map, rowOf_len]; have := pn.few; omega, fun H4 p ts kp np hp4 pr4 => ?_⟩
  have g4 : Go T [] H3 H4 := Go.keep kp
  have hh4 := hh3.go0 g4
  have b4 := b3.go g4
  have g04 := g03.trans g4.goB
  have tabs4 := g4.tabs tabs3
  have lrow : ∀ R, (rowOf ns R).length ≤ 1000 := fun R => by rw [rowOf_len]; have := pn.few; omega
  have fin : ∀ (v : V) (R : Rg) (H5 H6 : Hp) (q : Addr), Go T [] H4 H5 → Go T [] H5 H6 → IsR (SqT K H5) v R → OnPts ns R → H5 q = none → H6 q = some (.lst ((rowOf ns R).map V.bl)) → 2 ≤ sizeLine ∧ ∀ t, H6 t = none → Q (.ref t) (upd H6 t (.tup [v, .ref q])) := fun v R H5 H6 q g5 g6 iv on nq hq => ⟨by decide, fun t ht => by
    have g7 := Go.new (T := T) (M := []) (o := .tup [v, V.ref q]) ht
    exact qq t q v R _ (g04.trans ((g5.trans g6).trans g7).goB) (b4.go ((g5.trans g6).trans g7)) upd_same (iv.go (g6.trans g7)) (g7.lst hq) on ((g04.trans g5.goB).back q nq)⟩
  have pr5 : ∀ {H5}, Go T [] H4 H5 → Paired (fun t q => H5 t = some (.tup [q.1, q.2])) ts (((rowOf ns RA).map V.bl).zip ((rowOf ns RB).map V.bl)) := fun g => Paired.mapP pr4 fun _ _ h => g.tup _ _ h
  have rl : (rowOf ns RB).length = (rowOf ns RA).length := by rw [rowOf_len, rowOf_len]
  refine ⟨_, rfl, (way : Int), 2, rfl, rfl, decide ((way : Int) < 2), rfl, ?_⟩
  by_cases w2 : (way : Int) < 2
  · rw [decide_eq_true w2]
    refine iteT ?_
    refine ⟨.ref F, rfl, _, rfl, F, fs, (a : Int), va, rfl, rfl, .of hh4.atF, atN ea, ?_⟩
    refine ⟨.ref F, rfl, _, rfl, F, fs, (b : Int), vb, rfl, rfl, .of hh4.atF, atN eb, ?_⟩
    refine ⟨va, vb, RA, RB, rfl, ira.go g4, irb.go g4, ona.1, onb.1, by omega, by omega, tabs4, fun v H5 R' g5 iv cv hx lv => ?_⟩
    refine ⟨.ref p, rfl, p, rfl, ⟨_, .of (g5.lst hp4)⟩, ?_⟩
    refine row_lc (T := T) (K := K) (fun x y => x || y) rl (lrow _) (g5.lst hp4) (pr5 g5) (fun x y H' Q' h => ?_) fun q H6 nq g6 hq => ?_
    · cases x
      · exact ⟨_, rfl, _, rfl, iteF ⟨_, rfl, h⟩⟩
      · exact ⟨_, rfl, _, rfl, iteT h⟩
    · rw [← row_two (f := fun x y => x || y) hx] at hq
      exact fin v R' H5 H6 q g5 g6 iv (on_two (f := fun x y => x || y) pn ona onb cv hx) nq hq
  · rw [decide_eq_false w2]
    refine iteF ⟨_, rfl, (way : Int), 4, rfl, rfl, decide ((way : Int) < 4), rfl, ?_⟩
    by_cases w4 : (way : Int) < 4
    · rw [decide_eq_true w4]
      refine iteT ?_
      refine ⟨.ref F, rfl, _, rfl, F, fs, (a : Int), va, rfl, rfl, .of hh4.atF, atN ea, ?_⟩
      refine ⟨.ref F, rfl, _, rfl, F, fs, (b : Int), vb, rfl, rfl, .of hh4.atF, atN eb, ?_⟩
      refine ⟨va, vb, RA, RB, rfl, ira.go g4, irb.go g4, ona.1, onb.1, by omega, by omega, tabs4, fun v H5 R' g5 iv cv hx lv => ?_⟩
      refine ⟨.ref p, rfl, p, rfl, ⟨_, .of (g5.lst hp4)⟩, ?_⟩
      refine row_lc (T := T) (K := K) (fun x y => x && y) rl (lrow _) (g5.lst hp4) (pr5 g5) (fun x y H' Q' h => ?_) fun q H6 nq g6 hq => ?_
      · cases x
        · exact ⟨_, rfl, _, rfl, iteF h⟩
        · exact ⟨_, rfl, _, rfl, iteT ⟨_, rfl, h⟩⟩
      · rw [← row_two (f := fun x y => x && y) hx] at hq
        exact fin v R' H5 H6 q g5 g6 iv (on_two (f := fun x y => x && y) pn ona onb cv hx) nq hq
    · rw [decide_eq_false w4]
      refine iteF ⟨_, rfl, (way : Int), 6, rfl, rfl, decide ((way : Int) < 6), rfl, ?_⟩
      by_cases w6 : (way : Int) < 6
      · rw [decide_eq_true w6]
        refine iteT ?_
        refine ⟨.ref F, rfl, _, rfl, F, fs, (a : Int), va, rfl, rfl, .of hh4.atF, atN ea, ?_⟩
        refine ⟨.ref F, rfl, _, rfl, F, fs, (b : Int), vb, rfl, rfl, .of hh4.atF, atN eb, ?_⟩
        refine ⟨va, vb, RA, RB, rfl, ira.go g4, irb.go g4, ona.1, onb.1, by omega, by omega, tabs4, fun v H5 R' g5 iv cv hx lv => ?_⟩
        refine ⟨.ref p, rfl, p, rfl, ⟨_, .of (g5.lst hp4)⟩, ?_⟩
        refine row_lc (T := T) (K := K) (fun x y => x && !y) rl (lrow _) (g5.lst hp4) (pr5 g5) (fun x y H' Q' h => ?_) fun q H6 nq g6 hq => ?_
        · cases x
          · exact ⟨_, rfl, _, rfl, iteF h⟩
          · exact ⟨_, rfl, _, rfl, iteT ⟨_, rfl, _, rfl, h⟩⟩
        · rw [← row_two (f := fun x y => x && !y) hx] at hq
          exact fin v R' H5 H6 q g5 g6 iv (on_two (f := fun x y => x && !y) pn ona onb cv hx) nq hq
      · rw [decide_eq_false w6]
        refine iteF ?_
        refine ⟨.ref F, rfl, _, rfl, F, fs, (a : Int), va, rfl, rfl, .of hh4.atF, atN ea, ?_⟩
        refine ⟨va, RA, rfl, ira.go g4, by omega, fun v H5 g5 iv => ?_⟩
        have hx : ∀ x, inR x (restR RA) = !inR x RA := rest_in ona.1
        refine ⟨.ref L, rfl, _, rfl, L, ls, (a : Int), .ref qa, rfl, rfl, .of (g5.lst hh4.atL), atN fa, ?_⟩
        refine ⟨qa, rfl, ⟨_, .of (g5.lst (g4.lst hqa))⟩, ?_⟩
        refine not_lc (T := T) (K := K) (!·) (lrow _) (g5.lst (g4.lst hqa)) (fun x H' Q' h => ?_) fun q H6 nq g6 hq => ?_
        · exact ⟨_, rfl, _, rfl, h⟩
        · rw [← row_not hx] at hq
          exact fin v (restR RA) H5 H6 q g5 g6 iv (on_not pn ona (rest_can ona.1) hx) nq hq
end
end K3

/-! data that repr shows -/
namespace K3
open PySem PySem.Spec PyProof.Rows L2
open SX (S)
structure Sh (d : PyData) (n k : Nat) : Prop where
  show_ : d.showable = true
  lay : d.canLay0 = true
  len : d.shown.length ≤ n
  deep : d.depth ≤ k
structure ShA (ds : List PyData) (n k : Nat) : Prop where
  show_ : PyData.showableAll ds = true
  lay : PyData.canLayAll0 ds = true
  len : ((PyData.shownAll ds).map (·.length)).sum ≤ n * ds.length
  deep : PyData.depthAll ds ≤ k
theorem ShA.nil {n k : Nat} : ShA [] n k := ⟨rfl, rfl, Nat.zero_le _, Nat.zero_le _⟩
theorem ShA.cons {d : PyData} {ds : List PyData} {n k : Nat} (h : Sh d n k) (r : ShA ds n k) : ShA (d :: ds) n k where
  show_ := by
    show (d.showable && PyData.showableAll ds) = true
    rw [h.show_, r.show_]
    rfl
  lay := by
    show (d.canLay0 && PyData.canLayAll0 ds) = true
    rw [h.lay, r.lay]
    rfl
  len := by
    have e : PyData.shownAll (d :: ds) = d.shown :: PyData.shownAll ds := rfl
    rw [e, List.map_cons, List.sum_cons, List.length_cons, Nat.mul_succ]
    have := h.len
    have := r.len
    omega
  deep := Nat.max_le.mpr ⟨h.deep, r.deep⟩
theorem ShA.of {α : Type} {f : α → PyData} {n k : Nat} : ∀ {l : List α}, (∀ x ∈ l, Sh (f x) n k) → ShA (l.map f) n k
  | [], _ => .nil
  | x :: l, h => .cons (h x (by simp)) (ShA.of fun y hy => h y (List.mem_cons_of_mem _ hy))
theorem Sh.mono {d : PyData} {n k n' k' : Nat} (h : Sh d n k) (h1 : n ≤ n') (h2 : k ≤ k') : Sh d n' k' := ⟨h.show_, h.lay, Nat.le_trans h.len h1, Nat.le_trans h.deep h2⟩
theorem shA_len {ds : List PyData} : (PyData.shownAll ds).length = ds.length := by
  rw [shownAll_eq_map, List.length_map]
theorem Sh.list {ds : List PyData} {n k : Nat} (h : ShA ds n k) : Sh (.list ds) ((n + 2) * ds.length + 3) (k + 1) where
  show_ := h.show_
  lay := h.lay
  len := by
    have e : (PyData.list ds).shown = listText (PyData.shownAll ds) := rfl
    rw [e]
    have h1 := listText_len_le (PyData.shownAll ds)
    rw [shA_len] at h1
    have h2 := h.len
    rw [Nat.add_mul]
    omega
  deep := Nat.succ_le_succ h.deep
theorem Sh.tuple {ds : List PyData} {n k : Nat} (h : ShA ds n k) : Sh (.tuple ds) ((n + 2) * ds.length + 3) (k + 1) where
  show_ := h.show_
  lay := h.lay
  len := by
    have e : (PyData.tuple ds).shown = tupleText (PyData.shownAll ds) := rfl
    rw [e]
    have h1 := tupleText_len_le (PyData.shownAll ds)
    rw [shA_len] at h1
    have h2 := h.len
    rw [Nat.add_mul]
    omega
  deep := Nat.succ_le_succ h.deep
theorem Sh.none {k : Nat} : Sh .none 13 k := ⟨rfl, rfl, by decide, Nat.zero_le _⟩
theorem Sh.bool (b : Bool) {k : Nat} : Sh (.bool b) 13 k := ⟨rfl, rfl, by cases b <;> decide, Nat.zero_le _⟩
theorem Sh.int {i : Int} {k : Nat} (h : i.natAbs < 10 ^ 12) : Sh (.int i) 13 k := by
  refine ⟨?_, rfl, PyData.shown_int_le h, Nat.zero_le _⟩
  show decide (i.natAbs.log2 < 1920) = true
  rw [decide_eq_true_eq]
  by_cases h0 : i.natAbs = 0
  · rw [h0]
    decide
  · refine (Nat.log2_lt h0).mpr (Nat.lt_of_lt_of_le h ?_)
    exact Nat.le_trans (by decide : 10 ^ 12 ≤ 2 ^ 40) (Nat.pow_le_pow_right (n := 2) (by decide) (show 40 ≤ 1920 by decide))
theorem Sh.ver {n : Nat} (h : n < MX) : Sh (verD n) 48 1 := by
  have hm : MX = 1000000000000000000 := rfl
  have e : (10 : Nat) ^ 12 = 1000000000000 := by decide
  have h1 : Sh (.int (VA n)) 13 0 := Sh.int (by rw [e]; show (((n / 1000000000000 : Nat) : Int)).natAbs < _; omega)
  have h2 : Sh (.int (VB n)) 13 0 := Sh.int (by rw [e]; show (((n / 1000000 % 1000000 : Nat) : Int)).natAbs < _; omega)
  have h3 : Sh (.int (VC n)) 13 0 := Sh.int (by rw [e]; show (((n % 1000000 : Nat) : Int)).natAbs < _; omega)
  exact Sh.tuple (.cons h1 (.cons h2 (.cons h3 .nil)))
theorem Sh.end_ {o : Option Nat} (h : ∀ n, o = some n → n < MX) : Sh (endD o) 48 1 := by
  cases o with
  | none => exact (Sh.none (k := 1)).mono (by decide) (Nat.le_refl _)
  | some n => exact Sh.ver (h n rfl)
theorem Sh.seg {s : Sg} (h : s.1 < MX ∧ ∀ n, s.2 = some n → n < MX) : Sh (segD s) 103 2 := Sh.tuple (.cons (Sh.ver h.1) (.cons (Sh.end_ h.2) .nil))
theorem Sh.rng {R : Rg} (h : Small R) (hl : R.length ≤ 1000) : Sh (rngD R) 1000000 3 := by
  have s := Sh.tuple (ShA.of (f := segD) (n := 103) (k := 2) fun s hs => Sh.seg (h s hs))
  refine s.mono ?_ (Nat.le_refl _)
  rw [List.length_map]
  omega
theorem Sh.text {l : List Nat} (h : ∀ c ∈ l, c < 128) (hl : l.length ≤ 50000) {k : Nat} : Sh (.str (S l)) 1000000 k := by
  refine ⟨rfl, strOk_S h, ?_, Nat.zero_le _⟩
  have e : (PyData.str (S l)).shown = reprText (S l) := rfl
  rw [e]
  have h1 := StrLaws.reprText_len (S l) fun c hc => by
    have hc : c ∈ l := by simpa [S] using hc
    exact Nat.lt_trans (h c hc) (by decide)
  have h2 : (S l).length = l.length := by simp [S, Str.length]
  rw [h2] at h1
  omega
theorem rngT_len {R : Rg} (h : Small R) (hl : R.length ≤ 50) : (rngT R).length ≤ 50000 := by
  have h1 := join_len [32] (rngW R) (word_len h)
  have h2 := rngW_len R
  have h3 : (TL.joinL [32] (rngW R)).length ≤ 151 * (rngW R).length := h1
  show (TL.joinL [32] (rngW R)).length ≤ _
  omega
/-- alike to itself -/
theorem Sh.self {d : PyData} {n k : Nat} (h : Sh d n k) : PyData.eqv d d = true := SeqAt.eqv_refl d h.lay
theorem Sh.shaped {d : PyData} {n k : Nat} (h : Sh d n k) (hk : k ≤ 60) : SeqAt.shaped d = true := shaped_of h.lay (Nat.le_trans h.deep (Nat.le_trans hk (by decide)))
end K3

namespace K3
open PySem PySem.Spec PyProof.Rows L2
section
variable {P : Program} {w : World} {K : PySem.W.Frag} {mg : Str → Option Value} {base : Heap} {T : Tbl}
/-- alike: told of data that are the same -/
def AlikeV (K : PySem.W.Frag) (vs : List V) (H : Hp) (Q : VK) : Prop := ∃ (a b : Addr) (d : PyData) (n : Nat), vs = [.ref a, .ref b] ∧ Dp K H (.ref a) d ∧ Dp K H (.ref b) d ∧ Sh d n 10 ∧ n ≤ sizeLine ∧ Q (.bl true) H
def spAlike (K : PySem.W.Frag) : SpA := fun A _ _ vs H Q => A.guards = some [] ∧ AlikeV K vs H Q
theorem ok_l_alike (G : Glo K mg) (D : Top K mg "_law_alike" s_l_alike) : DefA P w K mg base 1 "_law_alike" ["_law_found", "_law_due"] (spAlike K) := by
  refine defA_of D sc_l_alike bd_l_alike (fun A outer s vs H Q ⟨_, _, _, _, _, e, _⟩ => by rw [e]; rfl) ?_
  rintro f cdv A outer s H vs Q hr ⟨hg, a, b, d, n, rfl, da, db, sh, hn, qq⟩
  refine ⟨_, pss_one (ps_ret (pe_and (pe_cmpR (eqD K hr.units) (pv 0) (pv 1) (nomark _)) (pe_one (pe_cmpR op_eq
    (pe_callB (call_repr hg hr.units) (by rfl) (G.free "repr" (by decide +kernel)) rfl (pa_cons (pv 0) pa_nil)) (pe_callB (call_repr hg hr.units) (by rfl) (G.free "repr" (by decide +kernel)) rfl (pa_cons (pv 1) pa_nil)) (nomark _))))), ?_⟩
  have k1 := sh.shaped (by decide)
  refine ⟨_, rfl, _, rfl, d, d, da, db, k1, k1, ?_⟩
  rw [sh.self]
  have q1 := Nat.le_trans sh.deep (by decide : 10 ≤ 60)
  have q2 := Nat.le_trans sh.len hn
  refine ⟨_, rfl, iteT ⟨_, rfl, a, d, rfl, da, sh.show_, sh.lay, q1, q2, _, rfl, b, d, rfl, db, sh.show_, sh.lay, q1, q2, rfl, ?_⟩⟩
  rw [decide_eq_true rfl]
  exact qq
end
end K3

namespace K3
open PySem PySem.Spec PyProof.Rows L2
theorem Paired.mapL {α β γ : Type} {R : γ → β → Prop} {f : α → γ} : ∀ {l : List α} {m : List β}, Paired (fun a b => R (f a) b) l m → Paired R (l.map f) m
  | _, _, .nil => .nil
  | _, _, .cons a r => .cons a (Paired.mapL r)
theorem Paired.mem {α β : Type} {R : α → β → Prop} : ∀ {l : List α} {m : List β}, Paired R l m → Paired (fun a b => a ∈ l ∧ R a b) l m
  | _, _, .nil => .nil
  | _, _, .cons a r => .cons ⟨by simp, a⟩ (Paired.mapP (Paired.mem r) fun _ _ h => ⟨List.mem_cons_of_mem _ h.1, h.2⟩)
theorem range_keep {ns : List Nat} {keep : Nat → Bool} {g : Nat → Bool} (h : ∀ (i n : Nat), ns[i]? = some n → keep i = g n) : ∀ k, k ≤ ns.length → ((List.range k).filter keep).map (fun i => ns.getD i 0) = (ns.take k).filter g
  | 0, _ => by simp
  | k + 1, hk => by
    have e : ns[k]? = some (ns[k]'(by omega)) := List.getElem?_eq_getElem (by omega)
    have e2 : ns.getD k 0 = ns[k]'(by omega) := by rw [List.getD_eq_getElem?_getD, e]; rfl
    rw [range_snoc, List.map_append, range_keep h k (by omega), List.take_add_one, e, List.filter_append]
    congr 1
    show List.map _ (if keep k = true then [k] else []) = [ns[k]'(by omega)].filter g
    rw [h k _ e, List.filter_cons, List.filter_nil]
    split
    · show [ns.getD k 0] = _
      rw [e2]
    · rfl
theorem kept_vers {H : Hp} {us : List V} {ns : List Nat} {keep g : Nat → Bool} {zs : List V} (hv : Vers H us ns) (h : ∀ (i n : Nat), ns[i]? = some n → keep i = g n) (pr : Paired (fun (i : Nat) y => us[i]? = some y) ((List.range ns.length).filter keep) zs) : Vers H zs (ns.filter g) := by
  have e := range_keep h ns.length (Nat.le_refl _)
  rw [List.take_length] at e
  rw [← e]
  refine Paired.flip (Paired.mapL (f := fun i => ns.getD i 0) (R := fun n y => IsV (Th H) y n) (Paired.mapP (Paired.mem pr) fun i y ⟨m, hy⟩ => ?_))
  have hi : i < ns.length := List.mem_range.mp (List.mem_filter.mp m).1
  have e1 : ns[i]? = some ns[i] := List.getElem?_eq_getElem hi
  have e2 : ns.getD i 0 = ns[i] := by rw [List.getD_eq_getElem?_getD, e1]; rfl
  show IsV (Th H) y (ns.getD i 0)
  rw [e2]
  exact Paired.all (Paired.flip hv) i ns[i] y e1 hy
def versD (ms : List Nat) : PyData := .list (ms.map verD)
theorem Vers.dps {K : PySem.W.Frag} {H : Hp} : ∀ {us : List V} {ns : List Nat}, Vers H us ns → DpAll K H us (ns.map verD)
  | _, _, .nil => .nil
  | _, _, .cons a r => .cons a.soft.dp (Vers.dps r)
theorem vers_can : ∀ ms : List Nat, PyData.canLayAll0 (ms.map verD) = true
  | [] => rfl
  | m :: ms => by
    show ((verD m).canLay0 && PyData.canLayAll0 (ms.map verD)) = true
    rw [vers_can ms]
    rfl
theorem vers_deep : ∀ ms : List Nat, PyData.depthAll (ms.map verD) ≤ 1
  | [] => Nat.zero_le _
  | m :: ms => Nat.max_le.mpr ⟨Nat.le_refl _, vers_deep ms⟩
theorem shaped_vers (ms : List Nat) : SeqAt.shaped (versD ms) = true := shaped_of (vers_can ms) (Nat.le_trans (Nat.succ_le_succ (vers_deep ms)) (by decide))
theorem vers_nil (ms : List Nat) : PyData.eqv (versD ms) (versD []) = decide (ms = []) := by
  cases ms with
  | nil => rfl
  | cons m ms => rfl
theorem count_none {n : Nat} {keep : Nat → Bool} : ((List.range n).filter keep).length = 0 ↔ ∀ i, i < n → keep i = false := by
  rw [List.length_eq_zero_iff, List.filter_eq_nil_iff]
  simp
section
variable {P : Program} {w : World} {K : PySem.W.Frag} {mg : Str → Option Value} {base : Heap} {T : Tbl}
def PartedV (T : Tbl) (K : PySem.W.Frag) (vs : List V) (H : Hp) (Q : VK) : Prop := ∃ (B C p F L : Addr) (us : List V) (ns : List Nat) (fs ls : List V) (Rs : List Rg), vs = [.ref B, .ref p, .ref F, .ref L] ∧ IsBag H B C ∧ p ≠ B ∧ Pts H p us ns 49 ∧ Held K H F L ns fs ls Rs ∧ LamX.Tabs T H ∧ ∀ H', Go T [B] H H' → IsBag H' B C → Q (.bl true) H'
def spParted (T : Tbl) (K : PySem.W.Frag) : SpA := fun A _ _ vs H Q => A.guards = some [] ∧ PartedV T K vs H Q
theorem ok_l_are_parted (G : Glo K mg) (D : Top K mg "_law_are_parted" s_l_are_parted) (D1 : DefF P w K mg base 1 "_law_take" ["_law_bag_here", "_law_many"] (spTake T)) (D2 : DefF P w K mg base 7 "parting_version" ["one", "other"] (spParting T K)) (D3 : DefF P w K mg base 7 "is_within" ["one", "other"] (spWithin T K))
    (D4 : DefA P w K mg base 1 "_law_alike" ["_law_found", "_law_due"] (spAlike K)) : DefA P w K mg base 8 "_law_are_parted" ["_law_bag_here", "_law_points_here", "_law_found", "_law_truths"] (spParted T K) := by
  refine defA_of D sc_l_are_parted bd_l_are_parted (fun A outer s vs H Q ⟨_, _, _, _, _, _, _, _, _, _, _, e, _⟩ => by rw [e]; rfl) ?_
  rintro f cdv A outer s H vs Q hr ⟨hg, B, C, p, F, L, us, ns, fs, ls, Rs, rfl, hb, hpB, hpt, hh, tabs, qq⟩
  refine ⟨_, pss_cons (ps_par (i := 4) (j := 5) rfl sc_l_are_parted.nd rfl rfl (by decide) rfl rfl
      (pa_cons (pe_D D1 (hr.mono (by decide)) (by rfl) (pa_cons (pv 0) (pa_cons (pe_callB (lenK K) (by rfl) (G.free "len" (by decide +kernel)) rfl (pa_cons (pv 2) pa_nil)) pa_nil)))
      (pa_cons (pe_D D1 (hr.mono (by decide)) (by rfl) (pa_cons (pv 0) (pa_cons (pe_callB (lenK K) (by rfl) (G.free "len" (by decide +kernel)) rfl (pa_cons (pv 2) pa_nil)) pa_nil))) pa_nil)) (by rfl))
    (pss_cons (ps_setLcW (i := 6) (own := [("_law_point", 9), ("_law_x", 10), ("_law_y", 11)]) sc_l_are_parted.nd rfl rfl (blkOk_by (N := n_l_are_parted) (sc := defScope s_l_are_parted) (by decide +kernel))
      (pi_zip3 (by rfl) (G.free "zip" (by decide +kernel)) (pa_cons (pv 1) (pa_cons (peIx (ixL K) (pv 3) (pv 4)) (pa_cons (peIx (ixL K) (pv 3) (pv 5)) pa_nil))))
      (fun s' H' C cl fp => by exact pgT K 3 (pgs_cons (pg_name (i := 9) sc_l_are_parted.nd rfl (.inl rfl)) (pgs_cons (pg_name (i := 10) sc_l_are_parted.nd rfl (.inl rfl)) (pgs_cons (pg_name (i := 11) sc_l_are_parted.nd rfl (.inl rfl)) pgs_nil))))
      (fun s' H' C cl fp => pts_one (pt_cmpR (neD K hr.units) (pv 10) (pv 11) (nomark _))) (fun s' H' C cl fp => pv 9))
    (pss_cons (ps_set (i := 7) sc_l_are_parted.nd rfl (.inl rfl) (pe_cmpR (eqD K hr.units) (pe_lcW (own := [("_law_x", 10), ("_law_y", 11)]) sc_l_are_parted.nd (blkOk_by (N := n_l_are_parted) (sc := defScope s_l_are_parted) (by decide +kernel))
      (pi_zip (by rfl) (G.free "zip" (by decide +kernel)) (pa_cons (peIx (ixL K) (pv 3) (pv 4)) (pa_cons (peIx (ixL K) (pv 3) (pv 5)) pa_nil)))
      (fun s' H' C cl fp => by exact pgT K 2 (pgs_cons (pg_name (i := 10) sc_l_are_parted.nd rfl (.inl rfl)) (pgs_cons (pg_name (i := 11) sc_l_are_parted.nd rfl (.inl rfl)) pgs_nil)))
      (fun s' H' C cl fp => pts_one (PW.pt (pw_and (pt_val (pv 10)) (pw_and1 (pt_not (pt_val (pv 11))))))) (fun s' H' C cl fp => pe_int)) (pe_lst pa_nil) (nomark _)))
    (pss_cons (ps_set (i := 8) sc_l_are_parted.nd rfl (.inl rfl) (pe_lst (pa_cons (pe_D D2 (hr.mono (by decide)) (by rfl) (pa_cons (peIx (ixL K) (pv 2) (pv 4)) (pa_cons (peIx (ixL K) (pv 2) (pv 5)) pa_nil)))
      (pa_cons (pe_D D3 (hr.mono (by decide)) (by rfl) (pa_cons (peIx (ixL K) (pv 2) (pv 4)) (pa_cons (peIx (ixL K) (pv 2) (pv 5)) pa_nil)))
      (pa_cons (pe_cmpR (eqD K hr.units) (peIx (ixL K) (pv 2) (pv 4)) (peIx (ixL K) (pv 2) (pv 5)) (nomark _)) pa_nil)))))
    (pss_one (ps_ret (pe_DA D4 (hr.mono (by decide)) (by rfl) (sp' := fun _ vs H Q => AlikeV K vs H Q) (fun pins σ s1 vs H1 Q1 I h => ⟨hg, h⟩)
      (pa_cons (pv 8) (pa_cons (pe_lst (pa_cons (pe_ifExp (pt_cmpR (neD K hr.units) (pv 6) (pe_lst pa_nil) (nomark _)) (peIx (ixL K) (pv 6) pe_int) pe_non)
        (pa_cons (pv 7) (pa_cons (pe_cmpR (eqD K hr.units) (pv 6) (pe_lst pa_nil) (nomark _)) pa_nil)))) pa_nil)))))))), ?_⟩
  have len1 := hh.pos
  have few := hh.few
  refine ⟨.ref B, rfl, .ref F, rfl, .ref F, fs.length, rfl, .inl ⟨fs, .of hh.atF, rfl⟩, ?_⟩
  refine ⟨B, C, fs.length, rfl, hb, len1, by omega, fun a H1 ha g1 b1 => ?_⟩
  have hh1 := hh.goB hb g1
  refine ⟨.ref B, rfl, .ref F, rfl, .ref F, fs.length, rfl, .inl ⟨fs, .of hh1.atF, rfl⟩, ?_⟩
  refine ⟨B, C, fs.length, rfl, b1, len1, by omega, fun b H2 hb2 g2 b2 => ?_⟩
  have hh2 := hh1.goB b1 g2
  have g02 := g1.trans g2
  have tabs2 := g02.tabs tabs
  have hpt2 := hpt.go g02 (by simpa using hpB)
  obtain ⟨va, la, RA, ea, fa, ira, ⟨qa, rfl, hqa⟩, ona⟩ := hh2.at ha
  obtain ⟨vb, lb, RB, eb, fb, irb, ⟨qb, rfl, hqb⟩, onb⟩ := hh2.at hb2
  have lus : us.length = ns.length := (Paired.lenEq hpt.vers).symm
  have pn : PtsN ns := ⟨hpt.asc, hpt.head, by rw [← lus]; exact hpt.few⟩
  have lna := on_len pn ona
  have lnb := on_len pn onb
  have pf := pn.few
  have lrA : ((rowOf ns RA).map V.bl).length = us.length := by rw [List.length_map, rowOf_len, lus]
  have lrB : ((rowOf ns RB).map V.bl).length = us.length := by rw [List.length_map, rowOf_len, lus]
  have lrBA : ((rowOf ns RB).map V.bl).length = ((rowOf ns RA).map V.bl).length := lrB.trans lrA.symm
  have fr : ∀ {H' : Hp} {q x : Addr} {zs : List V}, H' q = none → H' x = some (.lst zs) → x ∉ [q] := fun h1 h2 m => by
    rw [List.mem_singleton.mp m, h1] at h2
    cases h2
  have rowV : ∀ {R : Rg} {i : Nat} {n : Nat} {y : V}, ns[i]? = some n → ((rowOf ns R).map V.bl)[i]? = some y → y = .bl (inR n R) := fun hn hy => by
    rw [List.getElem?_map, row_at hn] at hy
    exact (Option.some.inj hy).symm
  let g : Nat → Bool := fun n => inR n RA != inR n RB
  let g' : Nat → Bool := fun n => inR n RA && !inR n RB
  refine ⟨_, _, rfl, ?_⟩
  refine ⟨.ref p, rfl, .ref L, rfl, _, rfl, L, ls, (a : Int), .ref qa, rfl, rfl, .of hh2.atL, atN fa, .ref L, rfl, _, rfl, L, ls, (b : Int), .ref qb, rfl, rfl, .of hh2.atL, atN fb, ?_⟩
  refine ⟨p, qa, qb, us, (rowOf ns RA).map V.bl, (rowOf ns RB).map V.bl, rfl, .of hpt2.at_, .of hqa, .of hqb, lrA, lrB, ?_⟩
  refine lc_go (T := T) (M := []) (it_zip3 lrA lrB) (fun i => match ns[i]? with | some n => g n | none => false) (fun i y _ => us[i]? = some y) (fun _ _ => True) (by rw [sizeLine_eq]; omega) (fun b m => by cases m)
    (fun q H' hq gg => ⟨.of (gg.lst hpt2.at_ (fr hq hpt2.at_)), .of (gg.lst hqa (fr hq hqa)), .of (gg.lst hqb (fr hq hqb))⟩) (fun i y q H' H'' _ _ e => e) (fun i x H' Kc Kn hi gg it kc kn => ?_) fun q zs H3 hq g3 hq3 pr => ?_
  · obtain ⟨t, x, y, z, rfl, ht, ex, ey, ez⟩ := it
    have hn : ns[i]? = some (ns[i]'(by omega)) := List.getElem?_eq_getElem (by omega)
    generalize ns[i]'(by omega) = n at hn
    rw [rowV hn ey, rowV hn ez] at ht
    refine ⟨t, _, rfl, .of ht, rfl, _, _, rfl, _, _, rfl, _, _, rfl, rfl, rfl, ?_⟩
    refine ⟨_, rfl, _, rfl, .bool (inR n RA), .bool (inR n RB), .bl _, .bl _, rfl, rfl, _, rfl, ?_⟩
    have e : (!PyData.eqv (.bool (inR n RA)) (.bool (inR n RB))) = g n := by
      show _ = (inR n RA != inR n RB)
      cases inR n RA <;> cases inR n RB <;> rfl
    rw [e]
    cases hg : g n with
    | true => exact iteT ⟨_, rfl, kc _ _ (by rw [hn]; exact hg) Go.refl ex fun _ _ _ => trivial⟩
    | false => exact iteF (kn _ (by rw [hn]; exact hg) Go.refl)
  rw [lus] at pr
  have hv3 := kept_vers (hpt2.vers.go g3) (g := g) (fun i n hn => by rw [hn]) pr
  have hh3 := hh2.go0 g3
  have b3 := b2.go g3
  have tabs3 := g3.tabs tabs2
  have hqa3 := g3.lst hqa
  have hqb3 := g3.lst hqb
  refine ⟨.ref L, rfl, _, rfl, L, ls, (a : Int), .ref qa, rfl, rfl, .of hh3.atL, atN fa, .ref L, rfl, _, rfl, L, ls, (b : Int), .ref qb, rfl, rfl, .of hh3.atL, atN fb, ?_⟩
  refine ⟨qa, qb, (rowOf ns RA).map V.bl, (rowOf ns RB).map V.bl, rfl, .of hqa3, .of hqb3, ?_⟩
  have lmin : min ((rowOf ns RA).map V.bl).length ((rowOf ns RB).map V.bl).length = ns.length := by rw [lrA, lrB, lus, Nat.min_self]
  refine lc_go (T := T) (M := []) it_zipL (fun i => match ns[i]? with | some n => g' n | none => false) (fun i y _ => y = .int 1) (fun _ _ => True) (by rw [sizeLine_eq, lmin]; omega) (fun b m => by cases m)
    (fun q H' hq gg => ⟨.of (gg.lst hqa3 (fr hq hqa3)), .of (gg.lst hqb3 (fr hq hqb3))⟩) (fun i y q H' H'' _ _ e => e) (fun i x H' Kc Kn hi gg it kc kn => ?_) fun q2 ones H4 hq2 g4 hq24 pr4 => ?_
  · obtain ⟨t, x, y, rfl, ht, ex, ey⟩ := it
    rw [lmin] at hi
    have hn : ns[i]? = some (ns[i]'(by omega)) := List.getElem?_eq_getElem (by omega)
    generalize ns[i]'(by omega) = n at hn
    rw [rowV hn ex, rowV hn ey] at ht
    refine ⟨t, _, rfl, .of ht, rfl, _, _, rfl, _, _, rfl, rfl, rfl, ?_⟩
    have kt : g' n = true → Kc (.int 1) H' := fun h => kc _ _ (by rw [hn]; exact h) Go.refl rfl fun _ _ _ => trivial
    have kf : g' n = false → Kn H' := fun h => kn _ (by rw [hn]; exact h) Go.refl
    have e : g' n = (inR n RA && !inR n RB) := rfl
    refine ⟨_, rfl, _, rfl, ?_⟩
    cases h1 : inR n RA with
    | false =>
      rw [h1] at e
      exact iteF (iteF (kf e))
    | true =>
      refine iteT ⟨_, rfl, _, rfl, ?_⟩
      rw [h1] at e
      cases h2 : inR n RB with
      | false =>
        rw [h2] at e
        exact iteT (kt e)
      | true =>
        rw [h2] at e
        exact iteF (kf e)
  have eo : ones = List.replicate ones.length (.int 1) := by
    have e := ones_of pr4
    rw [Paired.lenEq pr4]
    exact e
  have ek : ones.length = ((List.range ns.length).filter fun i => match ns[i]? with | some n => g' n | none => false).length := by rw [Paired.lenEq pr4, lmin]
  generalize hkk : ones.length = k at eo ek
  have hh4 := hh3.go0 g4
  have b4 := b3.go g4
  have tabs4 := g4.tabs tabs3
  have g24 := g3.trans g4
  refine ⟨by decide, fun c hc => ⟨onesD k, onesD 0, .lst (.of (by rw [← eo]; exact (Go.new (T := T) (M := []) hc).lst hq24)) (ones_dp k), .lst (.of upd_same) .nil, shaped_ones _, shaped_ones _, ?_⟩⟩
  have g5 : Go T [] H4 (upd H4 c (.lst [])) := Go.new hc
  have hh5 := hh4.go0 g5
  have b5 := b4.go g5
  have tabs5 := g5.tabs tabs4
  have g25 := g24.trans g5
  have hq5 := g5.lst (g4.lst hq3)
  have hv5 := hv3.go (g4.trans g5)
  generalize upd H4 c (.lst []) = H5 at g5 hh5 b5 tabs5 g25 hq5 hv5 ⊢
  rw [ones_nil]
  refine ⟨.ref F, rfl, _, rfl, F, fs, (a : Int), va, rfl, rfl, .of hh5.atF, atN ea, .ref F, rfl, _, rfl, F, fs, (b : Int), vb, rfl, rfl, .of hh5.atF, atN eb, ?_⟩
  refine ⟨va, vb, RA, RB, rfl, ira.go g25, irb.go g25, ona.1, onb.1, by omega, by omega, tabs5, fun v H6 DD g6 cD hx hv => ?_⟩
  have hh6 := hh5.go0 g6
  refine ⟨.ref F, rfl, _, rfl, F, fs, (a : Int), va, rfl, rfl, .of hh6.atF, atN ea, .ref F, rfl, _, rfl, F, fs, (b : Int), vb, rfl, rfl, .of hh6.atF, atN eb, ?_⟩
  refine ⟨va, vb, RA, RB, rfl, ira.go (g25.trans g6), irb.go (g25.trans g6), ona.1, onb.1, by omega, by omega, g6.tabs tabs5, fun wb H7 g7 hw => ?_⟩
  have hh7 := hh6.go0 g7
  have g27 := (g25.trans g6).trans g7
  refine ⟨.ref F, rfl, _, rfl, F, fs, (a : Int), va, rfl, rfl, .of hh7.atF, atN ea, .ref F, rfl, _, rfl, F, fs, (b : Int), vb, rfl, rfl, .of hh7.atF, atN eb, ?_⟩
  refine ⟨rngD RA, rngD RB, (ira.go g27).dp, (irb.go g27).dp, shaped_rng _, shaped_rng _, ?_⟩
  rw [rngD_eqv]
  refine ⟨by show 3 ≤ sizeLine; decide, fun t ht => ?_⟩
  -- what the law expects
  have hms := on_first pn ona onb cD hx
  have hno := on_none pn ona onb
  have hwi := on_within pn ona onb
  have hwb : wb = decide (k = 0) := by
    have e1 : k = 0 ↔ ∀ n ∈ ns, (inR n RA && !inR n RB) = false := by
      rw [ek, count_none]
      refine ⟨fun h n hn => ?_, fun h i hi => ?_⟩
      · obtain ⟨i, hi⟩ := List.mem_iff_getElem?.mp hn
        have h1 := h i (List.getElem?_eq_some_iff.mp hi).1
        rw [hi] at h1
        exact h1
      · have hi' : ns[i]? = some ns[i] := List.getElem?_eq_getElem hi
        rw [hi']
        exact h _ (List.getElem_mem _)
    cases wb with
    | true => exact (decide_eq_true (e1.mpr (hwi.mp (hw.mp rfl)))).symm
    | false => exact (decide_eq_false fun z => nomatch hw.mpr (hwi.mpr (e1.mp z))).symm
  have hms' : DD.head?.map (·.1) = (ns.filter g).head? := hms
  have hno' : RA = RB ↔ ns.filter g = [] := hno
  have hmem : ∀ m ∈ ns.filter g, m < MX := fun m hm => by
    obtain ⟨i, hi⟩ := List.mem_iff_getElem?.mp hm
    obtain ⟨y, _, iv⟩ := Paired.at (Paired.flip hv5) hi
    obtain ⟨_, _, _, hlt⟩ := iv
    exact hlt
  generalize ns.filter g = ms at hv5 hms' hno' hmem
  rw [hms'] at hv
  have g8 : Go T [] H7 (upd H7 t (.lst [v, .bl wb, .bl (decide (RA = RB))])) := Go.new ht
  have hq8 := g8.lst (g7.lst (g6.lst hq5))
  have hv8 := ((hv5.go g6).go g7).go g8
  have ie8 := (hv.go g7).go g8
  have ht8 : upd H7 t (.lst [v, .bl wb, .bl (decide (RA = RB))]) t = some (.lst [v, .bl wb, .bl (decide (RA = RB))]) := upd_same
  have b8 := ((b5.go g6).go g7).go g8
  have g08 := g02.trans (g27.trans g8).goB
  generalize upd H7 t (.lst [v, .bl wb, .bl (decide (RA = RB))]) = H8 at g8 hq8 hv8 ie8 ht8 b8 g08 ⊢
  refine ⟨.ref t, rfl, .ref q, rfl, by decide, fun c1 hc1 => ?_⟩
  have g9 : Go T [] H8 (upd H8 c1 (.lst [])) := Go.new hc1
  refine ⟨versD ms, versD [], .lst (.of (g9.lst hq8)) (hv8.go g9).dps, .lst (.of upd_same) .nil, shaped_vers _, shaped_vers _, _, rfl, ?_⟩
  have ht9 := g9.lst ht8
  have hq9 := g9.lst hq8
  have hv9 := hv8.go g9
  have ie9 := ie8.go g9
  have b9 := b8.go g9
  have g09 := g08.trans g9.goB
  generalize upd H8 c1 (.lst []) = H9 at g9 ht9 hq9 hv9 ie9 b9 g09 ⊢
  rw [vers_nil]
  have shd : Sh (.list [endD ms.head?, .bool (decide (k = 0)), .bool (decide (ms = []))]) 153 2 := Sh.list (.cons (Sh.end_ fun n hn => hmem n (List.mem_of_mem_head? hn)) (.cons ((Sh.bool _).mono (by decide) (Nat.le_refl _)) (.cons ((Sh.bool _).mono (by decide) (Nat.le_refl _)) .nil)))
  have eRR : decide (RA = RB) = decide (ms = []) := decide_eq_decide.mpr hno'
  have last : ∀ (H10 : Hp) (x : Unit) (t2 : Addr) (z : V), H10 t2 = none → Go T [] H9 H10 → (∀ H', Go T [] H9 H' → Dp K H' z (endD ms.head?)) → AlikeV K [.ref t, .ref t2] (upd H10 t2 (.lst [z, .bl (decide (k = 0)), .bl (decide (ms = []))])) Q := fun H10 _ t2 z ht2 g10 dz => by
    have g11 : Go T [] H10 (upd H10 t2 (.lst [z, .bl (decide (k = 0)), .bl (decide (ms = []))])) := Go.new ht2
    refine ⟨t, t2, _, 153, rfl, .lst (.of (g11.lst (g10.lst ht9))) (.cons (((ie9.go g10).go g11)).dp (.cons (by rw [← hwb]; exact .bl _) (.cons (by rw [← eRR]; exact .bl _) .nil))), .lst (.of upd_same) (.cons (dz _ (g10.trans g11)) (.cons (.bl _) (.cons (.bl _) .nil))), shd.mono (Nat.le_refl _) (by decide), by decide, qq _ (g09.trans (g10.trans g11).goB) ((b9.go g10).go g11)⟩
  by_cases hm : ms = []
  · rw [decide_eq_true hm]
    refine iteF ?_
    refine ⟨_, rfl, .ref q, rfl, by decide, fun c2 hc2 => ⟨versD ms, versD [], .lst (.of ((Go.new (T := T) (M := []) hc2).lst hq9)) (hv9.go (Go.new (T := T) (M := []) hc2)).dps, .lst (.of upd_same) .nil, shaped_vers _, shaped_vers _, ?_⟩⟩
    rw [vers_nil]
    exact ⟨by show 3 ≤ sizeLine; decide, fun t2 ht2 => last _ () t2 _ ht2 (Go.new (T := T) (M := []) hc2) fun H' _ => by rw [hm]; exact .non⟩
  · rw [decide_eq_false hm]
    obtain ⟨m, ms', rfl⟩ : ∃ m ms', ms = m :: ms' := by
      cases ms with
      | nil => exact absurd rfl hm
      | cons m ms' => exact ⟨m, ms', rfl⟩
    obtain ⟨z, zs', rfl, iz⟩ : ∃ z zs', zs = z :: zs' ∧ IsV (Th H9) z m := by
      cases hv9 with
      | cons a r => exact ⟨_, _, rfl, a⟩
    refine iteT ⟨.ref q, rfl, q, z :: zs', 0, z, rfl, rfl, .of hq9, at0, ?_⟩
    refine ⟨_, rfl, .ref q, rfl, by decide, fun c2 hc2 => ⟨versD (m :: ms'), versD [], .lst (.of ((Go.new (T := T) (M := []) hc2).lst hq9)) (hv9.go (Go.new (T := T) (M := []) hc2)).dps, .lst (.of upd_same) .nil, shaped_vers _, shaped_vers _, ?_⟩⟩
    rw [vers_nil]
    exact ⟨by show 3 ≤ sizeLine; decide, fun t2 ht2 => last _ () t2 _ ht2 (Go.new (T := T) (M := []) hc2) fun H' g => (iz.goH g).soft.dp⟩
end
end K3

namespace K3
open PySem PySem.Spec PyProof.Rows L2
section
variable {P : Program} {w : World} {K : PySem.W.Frag} {mg : Str → Option Value} {base : Heap} {k : Nat} {x : Str} {st : Stmt} {N ps : List Str} {sp : SpA} {tb : Addr}
theorem defAT_of (D : TopT K mg base x st tb) (S : FnScope N ps (defScope st)) (hb : ∀ (kV doc pm : Value) (an : Option Addr) (cdv ct : Value) (us : List Value), us.length = ps.length → bindArgs (PySem.W.fnOf x x (defArgs st) (defBody st) (defScope st) .none kV doc pm an cdv ct) ⟨us, []⟩ = pure (ps.zip us))
    (len : ∀ A outer s vs H Q, sp A outer s vs H Q → vs.length = ps.length)
    (hbody : ∀ (f c : Addr) (A : Around) (outer : List Env) (s : Shared) (H : Hp) (vs : List V) (Q : VK), LamX.TabB base mg c tb → Room k (A.deeper (envOfC x (defScope st) s.heap.objs.size f (.ref c))) → sp A outer s vs H Q →
      ∃ t, PSs (cxOf CX0 P w K mg base N x (defScope st) f (.ref c) A outer s H E0).nox (defBody st) t ∧ t { nx := fun _ H' => Q .non H', rt := Q } (start N vs) H) : DefA P w K mg base (k + 1) x ps sp := by
  obtain ⟨f, oc, od, kV, doc, pm, an, c, ct, osl, lk, hcd, hk, hm, TB⟩ := D.ex
  refine ⟨f, _, ⟨len, fun A outer s H args us vs Q hr e0 hbt r hsp => ?_⟩, hm, hk, .all (hb kV doc pm an (.ref c) ct)⟩
  refine LamX.run_ofS lk hcd S hr e0 hbt r (len _ _ _ _ _ _ hsp) fun hr' => ?_
  obtain ⟨t, h, q⟩ := hbody f c A outer s H vs Q TB hr' hsp
  exact ⟨t, h.nox, q⟩
end
/-- the lambda of law -/
def lawLam : Expr := match (defBody s_law).getD 1 (.Pass ⟨0, 0, 0, 0⟩) with
  | .For _ _ body _ _ => (match body.getD 4 (.Pass ⟨0, 0, 0, 0⟩) with
    | .For _ _ body2 _ _ => (match body2.getD 2 (.Pass ⟨0, 0, 0, 0⟩) with
      | .Assign _ (.Call _ (_ :: lam :: _) _ _) _ => lam
      | _ => .Constant .none 0 ⟨0, 0, 0, 0⟩)
    | _ => .Constant .none 0 ⟨0, 0, 0, 0⟩)
  | _ => .Constant .none 0 ⟨0, 0, 0, 0⟩
section
variable {K : PySem.W.Frag} {T : Tbl} {H : Hp} {F L B C p : Addr} {ns : List Nat} {fs ls us : List V} {Rs : List Rg}
theorem Held.row_ne (hh : Held K H F L ns fs ls Rs) {q : Addr} {l : List Bool} (h : H q = some (.lst (l.map V.bl))) : q ≠ F ∧ q ≠ L := by
  have h1 := hh.pos
  have e1 := Paired.lenEq hh.pf
  have e2 := Paired.lenEq hh.pl
  obtain ⟨v, l0, R, a1, a2, ⟨x, xs, rfl, _⟩, ⟨y, rfl, _⟩, _⟩ := hh.at (i := 0) h1
  constructor
  · rintro rfl
    have hF := hh.atF
    rw [h] at hF
    cases hF
    rw [List.getElem?_map] at a1
    cases hl : l[0]? with
    | none => rw [hl] at a1; cases a1
    | some b => rw [hl] at a1; cases a1
  · rintro rfl
    have hL := hh.atL
    rw [h] at hL
    cases hL
    rw [List.getElem?_map] at a2
    cases hl : l[0]? with
    | none => rw [hl] at a2; cases a2
    | some b => rw [hl] at a2; cases a2
theorem Held.ints_ne (hh : Held K H F L ns fs ls Rs) {q : Addr} {l : List Int} (h : H q = some (.lst (l.map V.int))) : q ≠ F ∧ q ≠ L := by
  have h1 := hh.pos
  obtain ⟨v, l0, R, a1, a2, ⟨x, xs, rfl, _⟩, ⟨y, rfl, _⟩, _⟩ := hh.at (i := 0) h1
  constructor
  · rintro rfl
    have hF := hh.atF
    rw [h] at hF
    cases hF
    rw [List.getElem?_map] at a1
    cases hl : l[0]? with
    | none => rw [hl] at a1; cases a1
    | some b => rw [hl] at a1; cases a1
  · rintro rfl
    have hL := hh.atL
    rw [h] at hL
    cases hL
    rw [List.getElem?_map] at a2
    cases hl : l[0]? with
    | none => rw [hl] at a2; cases a2
    | some b => rw [hl] at a2; cases a2
theorem paired_ex {α β γ : Type} {R : β → γ → Prop} : ∀ {l : List α} {m : List β}, Paired (fun _ y => ∃ r, R y r) l m → ∃ rs, Paired R m rs
  | _, _, .nil => ⟨[], .nil⟩
  | _, _, .cons a r => by
    obtain ⟨x, hx⟩ := a
    obtain ⟨rs, h⟩ := paired_ex r
    exact ⟨x :: rs, .cons hx h⟩
theorem paired_app {α β : Type} {R : α → β → Prop} {x : α} {y : β} (h : R x y) {l : List α} {m : List β} (p : Paired R l m) : Paired R (l ++ [x]) (m ++ [y]) := Paired.snoc h p
theorem held_app {v : V} {q : Addr} {R : Rg} (hh : Held K H F L ns fs ls Rs) (hb : IsBag H B C) (hp : Pts H p us ns 49) (nFL : F ≠ L) (pF : p ≠ F) (pL : p ≠ L) (iv : IsR (SqT K H) v R) (hq : H q = some (.lst ((rowOf ns R).map V.bl))) (on : OnPts ns R) (few : fs.length + 1 ≤ 100) (tabs : LamX.Tabs T H) :
    (upd H F (.lst (fs ++ [v]))) L = some (.lst ls) ∧ Held K (upd (upd H F (.lst (fs ++ [v]))) L (.lst (ls ++ [.ref q]))) F L ns (fs ++ [v]) (ls ++ [.ref q]) (Rs ++ [R]) ∧ IsBag (upd (upd H F (.lst (fs ++ [v]))) L (.lst (ls ++ [.ref q]))) B C ∧
      Pts (upd (upd H F (.lst (fs ++ [v]))) L (.lst (ls ++ [.ref q]))) p us ns 49 ∧ LamX.Tabs T (upd (upd H F (.lst (fs ++ [v]))) L (.lst (ls ++ [.ref q]))) := by
  have e1 : (upd H F (.lst (fs ++ [v]))) L = some (.lst ls) := by rw [upd_ne nFL.symm]; exact hh.atL
  have g1 : Go T [F, L] H (upd H F (.lst (fs ++ [v]))) := Go.wr (by simp) hh.atF
  have g2 : Go T [F, L] (upd H F (.lst (fs ++ [v]))) (upd (upd H F (.lst (fs ++ [v]))) L (.lst (ls ++ [.ref q]))) := Go.wr (by simp) e1
  have g := g1.trans g2
  obtain ⟨a, s, i, ms, x1, x2, x3⟩ := id hb.ex
  have ap := hh.apart hb
  have rows : ∀ {l : V} {S : Rg}, IsRow ns H l S → IsRow ns (upd (upd H F (.lst (fs ++ [v]))) L (.lst (ls ++ [.ref q]))) l S := fun ⟨z, e, h⟩ => ⟨z, e, g.lst h (by
    obtain ⟨y1, y2⟩ := hh.row_ne h
    simp [y1, y2])⟩
  refine ⟨e1, ⟨by rw [upd_ne nFL]; exact upd_same, upd_same, paired_app (iv.go g) (Paired.mapP hh.pf fun _ _ h => h.go g), paired_app (rows ⟨q, rfl, hq⟩) (Paired.mapP hh.pl fun _ _ h => rows h), fun S hS => ?_, by rw [List.length_append, List.length_singleton]; omega, by rw [List.length_append, List.length_singleton]; exact few⟩, hb.goM g (by simp [ap.1.symm, ap.2.symm]) (by
    obtain ⟨y1, y2⟩ := hh.ints_ne x2
    simp [y1, y2]), hp.go g (by simp [pF, pL]), g.tabs tabs⟩
  rcases List.mem_append.mp hS with h | h
  · exact hh.on S h
  · rw [List.mem_singleton.mp h]
    exact on
end
section
variable {P : Program} {w : World} {K : PySem.W.Frag} {mg : Str → Option Value} {base : Heap} {T : Tbl}
theorem lawLam_ok (cl : List (Str × Addr)) (f c' : Addr) : LOk P w K mg base CX0 1 f (mkD (lamQ "law") lawLam cl c') ["_law_point"] ["_law_its"] spLook :=
  look_ok _ _ _ _ _ _ (NdefX.nscope_by (show NdefX.nscB ["_law_point", "_law_its"] ["_law_point"] ["_law_its"] (lamScope lawLam) = true by decide +kernel)) (fun pm ctv us h => match us, h with | [_], _ => rfl)
    fun A outer s H hr => pe_dget (hu_of hr) (pv 1) (pv 0) (fun _ _ => rfl)
end
end K3

namespace K3
open PySem PySem.Spec PyProof.Rows L2
open SX (S)
section
variable {P : Program} {w : World} {K : PySem.W.Frag} {mg : Str → Option Value} {base : Heap} {T : Tbl} {tb : Addr}
def spLaw (T : Tbl) (K : PySem.W.Frag) : SpA := fun A _ _ vs H Q => A.guards = some [] ∧ ∃ (l : Addr) (ns : List Int), vs = [.ref l] ∧ SqL K H l (ns.map V.int) ∧ LamX.Tabs T H ∧ ∀ H', Q (.bl true) H'
theorem ok_law (G : Glo K mg) (D : TopT K mg base "law" s_law tb) (TI : TabIn T tb (lamQ "law"))
    (D1 : DefF P w K mg base 1 "_law_bag" ["_law_script"] (spBag T K)) (D2 : DefF P w K mg base 4 "_law_far_versions" ["_law_bag_here"] (spFar T)) (D3 : DefF P w K mg base 4 "_law_any_range" ["_law_bag_here", "_law_versions_here"] (spAnyRange T))
    (D4 : DefF P w K mg base 1 "_law_points" ["_law_ranges", "_law_more"] (spPoints T)) (D5 : DefF P w K mg base 1 "_law_is_in" ["_law_stretches", "_law_version_here"] (spIsIn T K)) (D6 : DefF P w K mg base 2 "_law_one" ["_law_bag_here", "_law_things"] (spOne T))
    (D7 : DefF P w K mg base 7 "_law_deed" ["_law_bag_here", "_law_found", "_law_truths"] (spDeed T K)) (D8 : DefA P w K mg base 3 "_law_range_by" ["_law_points_here", "_law_is_told"] (spRangeBy P w K mg base T)) (D9 : DefA P w K mg base 1 "_law_alike" ["_law_found", "_law_due"] (spAlike K))
    (D10 : DefF P w K mg base 4 "is_range" ["thing"] (spIsRange T K)) (D11 : DefF P w K mg base 4 "show_range" ["one"] (spRngShow T K)) (D12 : DefF P w K mg base 9 "read_range" ["text"] (spRead T K)) (D13 : DefF P w K mg base 2 "_law_show_range" ["_law_stretches"] (spLShow T K))
    (D14 : DefA P w K mg base 8 "_law_are_parted" ["_law_bag_here", "_law_points_here", "_law_found", "_law_truths"] (spParted T K)) : DefA P w K mg base 10 "law" ["_law_script"] (spLaw T K) := by
  refine defAT_of D sc_law bd_law (fun A outer s vs H Q ⟨_, _, _, e, _⟩ => by rw [e]; rfl) ?_
  rintro f_ cc A outer s H vs Q TB hr ⟨hg, l, sc, rfl, hl, tabs, qq⟩
  have hfree : ∀ y ∈ (lamScope lawLam).names, y.2 = .free → (defScope s_law).names.lookup y.1 = some .cell ∨ (defScope s_law).names.lookup y.1 = some .free := by
    intro y hy e
    have hy : y ∈ ([("_law_point", .local), ("_law_its", .free)] : List (Str × NameKind)) := hy
    rcases List.mem_cons.mp hy with rfl | hy
    · cases e
    · rw [List.mem_singleton.mp hy]
      exact .inl rfl
  refine ⟨_, pss_cons (ps_set (i := 1) sc_law.nd rfl (by first | exact .inl rfl | exact .inr rfl) (pe_D D1 (hr.mono (by decide)) (by rfl) (pa_cons (pv 0) pa_nil)))
    (pss_cons (ps_forW PassesOwn.never (pi_range1 (by rfl) (G.free "range" (by decide +kernel)) (pa_cons pe_int pa_nil)) (pg_name (i := 2) sc_law.nd rfl (by first | exact .inl rfl | exact .inr rfl))
      (pss_cons (ps_set (i := 3) sc_law.nd rfl (by first | exact .inl rfl | exact .inr rfl) (pe_D D2 (hr.mono (by decide)) (by rfl) (pa_cons (pv 1) pa_nil)))
      (pss_cons (ps_set (i := 4) sc_law.nd rfl (by first | exact .inl rfl | exact .inr rfl) (pe_op op_cat (pe_lcW (own := [("_law_k", 12)]) sc_law.nd (blkOk_by (N := n_law) (sc := defScope s_law) (by decide +kernel)) (pi_range1 (by rfl) (G.free "range" (by decide +kernel)) (pa_cons pe_int pa_nil))
          (fun s' H' C cl fp => pg_name (i := 12) sc_law.nd rfl (by first | exact .inl rfl | exact .inr rfl)) (fun s' H' C cl fp => pts_nil) (fun s' H' C cl fp => pe_D D3 (hr.mono (by decide)) (by rfl) (pa_cons (pv 1) (pa_cons (pv 3) pa_nil))))
          (pe_lst (pa_cons (pe_D D3 (hr.mono (by decide)) (by rfl) (pa_cons (pv 1) (pa_cons (pe_D D2 (hr.mono (by decide)) (by rfl) (pa_cons (pv 1) pa_nil)) pa_nil))) pa_nil))))
      (pss_cons (ps_set (i := 5) sc_law.nd rfl (by first | exact .inl rfl | exact .inr rfl) (pe_D D4 (hr.mono (by decide)) (by rfl) (pa_cons (pv 4) (pa_cons (pe_lst pa_nil) pa_nil))))
      (pss_cons (ps_setLcW (i := 6) (own := [("_law_one_here", 13)]) sc_law.nd rfl rfl (blkOk_by (N := n_law) (sc := defScope s_law) (by decide +kernel)) (pi_list (pv 4))
          (fun s' H' C cl fp => pg_name (i := 13) sc_law.nd rfl (by first | exact .inl rfl | exact .inr rfl)) (fun s' H' C cl fp => pts_nil)
          (te := tLcW (iList K (tVar 5)) (gName 14) tYes (tCall (spIsIn T K) [] E0 (tCons (tVar 13) (tCons (tVar 14) tNil))) [14])
          (fun s' H' C cl fp => by
            refine pe_lcW (own := [("_law_point", 14)]) sc_law.nd ?_ ?_ ?_ ?_ ?_
            · exact blkOk_by (N := n_law) (sc := ⟨.function, [(".0", .local), ("_law_one_here", .cell), ("_law_points_here", .cell)], false, false, []⟩) (by decide +kernel)
            · exact pi_list (pv 5)
            · intro s2 H2 C2 cl2 fp2
              exact pg_name (i := 14) sc_law.nd rfl (.inl rfl)
            · intro s2 H2 C2 cl2 fp2
              exact pts_nil
            · intro s2 H2 C2 cl2 fp2
              exact pe_D D5 (hr.mono (by decide)) (by rfl) (pa_cons (pv 13) (pa_cons (pv 14) pa_nil))))
      (pss_cons (ps_forW PassesOwn.never (pi_range1 (by rfl) (G.free "range" (by decide +kernel)) (pa_cons (pe_D D6 (hr.mono (by decide)) (by rfl) (pa_cons (pv 1) (pa_cons (pe_lst (pa_cons pe_int (pa_cons pe_int (pa_cons pe_int pa_nil)))) pa_nil))) pa_nil)) (pg_name (i := 7) sc_law.nd rfl (by first | exact .inl rfl | exact .inr rfl))
        (pss_cons (ps_asg (pe_D D7 (hr.mono (by decide)) (by rfl) (pa_cons (pv 1) (pa_cons (pv 4) (pa_cons (pv 6) pa_nil)))) (pgT K 2 (pgs_cons (pg_name (i := 8) sc_law.nd rfl (by first | exact .inl rfl | exact .inr rfl)) (pgs_cons (pg_name (i := 9) sc_law.nd rfl (by first | exact .inl rfl | exact .inr rfl)) pgs_nil))))
        (pss_cons (ps_set (i := 10) sc_law.nd rfl (by first | exact .inl rfl | exact .inr rfl) (pe_dictZip rfl hr.units (by rfl) (G.free "dict" (by decide +kernel)) (by rfl) (G.free "zip" (by decide +kernel)) (pa_cons (pv 5) (pa_cons (pv 9) pa_nil))))
        (pss_cons (ps_set (i := 11) sc_law.nd rfl (by first | exact .inl rfl | exact .inr rfl) (pe_DA D8 (hr.mono (by decide)) (by rfl)
          (sp' := fun σ vs H Q => ∃ (l f d : Addr) (us : List V) (ns : List Nat) (rs : List Bool) (c' : Addr), vs = [.ref l, .ref f] ∧ Pts H l us ns 60 ∧ rs.length = ns.length ∧ σ[10]? = some (some (.ref d)) ∧ H d = some (.dT (dKv ns rs)) ∧
            H f = some (LamO f (mkD (lamQ "law") lawLam (cloFrom (envOfC "law" (defScope s_law) s.heap.objs.size f_ (.ref cc)).cells (lamScope lawLam).names []) c')) ∧ H c' = some (LamX.CodeO c' (lamQ "law")) ∧ ∀ v H', Go T [] H H' → IsR (Th H') v (rbF [] ns rs) → Q v H')
          (fun pins σ s1 vs H1 Q1 I ⟨l, f, d, us, ns, rs, c', e1, e2, e3, e4, e5, e6, e7, e8⟩ => ?_)
          (pa_cons (pv 5) (pa_cons (pe_lam TB rfl TI.mem TI.one rfl hfree) pa_nil))))
        (pss_cons (ps_if (pt_not (pt_val (pe_DA D9 (hr.mono (by decide)) (by rfl) (sp' := fun _ vs H Q => AlikeV K vs H Q) (fun pins σ s1 vs H1 Q1 I h => ⟨hg, h⟩)
            (pa_cons (pe_lst (pa_cons (pv 8) (pa_cons (pe_D D10 (hr.mono (by decide)) (by rfl) (pa_cons (pv 8) pa_nil)) pa_nil))) (pa_cons (pe_lst (pa_cons (pv 11) (pa_cons pe_bl pa_nil))) pa_nil))))) (pss_one (ps_ret pe_bl)) pss_nil)
        (pss_cons (ps_if (pt_not (pt_val (pe_DA D9 (hr.mono (by decide)) (by rfl) (sp' := fun _ vs H Q => AlikeV K vs H Q) (fun pins σ s1 vs H1 Q1 I h => ⟨hg, h⟩)
            (pa_cons (pe_lst (pa_cons (pe_D D11 (hr.mono (by decide)) (by rfl) (pa_cons (pv 8) pa_nil)) (pa_cons (pe_D D12 (hr.mono (by decide)) (by rfl) (pa_cons (pe_D D13 (hr.mono (by decide)) (by rfl) (pa_cons (pv 11) pa_nil)) pa_nil)) pa_nil)))
              (pa_cons (pe_lst (pa_cons (pe_D D13 (hr.mono (by decide)) (by rfl) (pa_cons (pv 11) pa_nil)) (pa_cons (pv 11) pa_nil))) pa_nil))))) (pss_one (ps_ret pe_bl)) pss_nil)
        (pss_cons (ps_expr (pe_bm PySem.F.plainAttrs_list PySem.F.slot_list_append PySem.F.type_list_append mt_append (pv 4) (pa_cons (pv 8) pa_nil)))
        (pss_one (ps_expr (pe_bm PySem.F.plainAttrs_list PySem.F.slot_list_append PySem.F.type_list_append mt_append (pv 6) (pa_cons (pv 9) pa_nil)))))))))))
      (pss_one (ps_forW PassesOwn.never (pi_range1 (by rfl) (G.free "range" (by decide +kernel)) (pa_cons pe_int pa_nil)) (pg_name (i := 7) sc_law.nd rfl (by first | exact .inl rfl | exact .inr rfl))
        (pss_one (ps_if (pt_not (pt_val (pe_DA D14 (hr.mono (by decide)) (by rfl) (sp' := fun _ vs H Q => PartedV T K vs H Q) (fun pins σ s1 vs H1 Q1 I h => ⟨hg, h⟩)
          (pa_cons (pv 1) (pa_cons (pv 5) (pa_cons (pv 4) (pa_cons (pv 6) pa_nil))))))) (pss_one (ps_ret pe_bl)) pss_nil))))))))))
    (pss_one (ps_ret pe_bl))), ?_⟩
  · have caps : NdefX.Caps (cxOf CX0 P w K mg base n_law "law" (defScope s_law) f_ (.ref cc) A outer s H E0).nox (cloFrom (envOfC "law" (defScope s_law) s.heap.objs.size f_ (.ref cc)).cells (lamScope lawLam).names []) ["_law_its"] [10] :=
      NdefX.Caps.made I.ok hfree (fun y hy => by
        rw [List.mem_singleton.mp hy]
        show (Str.ofString "_law_its", NameKind.free) ∈ ([("_law_point", .local), ("_law_its", .free)] : List (Str × NameKind))
        simp) rfl
    refine ⟨l, f, d, us, ns, rs, _, "_law_its", e1, e2, e3, e6, e7, lawLam_ok _ _ _, ?_, fun y c hy => cell_nofs I (caps.sub y c hy) rfl, e5, e8⟩
    have h1 := NdefX.cells_of I caps
    rw [List.map_cons, NdefX.slotAt_of e4] at h1
    exact h1
  refine ⟨.ref l, rfl, l, sc, rfl, hl, fun B C H1 g1 b1 _ _ => ?_⟩
  have tabs1 := g1.tabs tabs
  let Pv : Nat → L2.St → Hp → Prop := fun _ σ H' => ∃ o0 o2 o3 o4 o5 o6 o7 o8 o9 o10 o11 o12 o13 o14 : Option V, σ = [o0, some (.ref B), o2, o3, o4, o5, o6, o7, o8, o9, o10, o11, o12, o13, o14] ∧ IsBag H' B C ∧ LamX.Tabs T H'
  refine ⟨3, rfl, by decide, by decide, ?_⟩
  refine for_go (T := T) it_rng Pv ⟨_, _, _, _, _, _, _, _, _, _, _, _, _, _, rfl, b1, tabs1⟩ (fun _ _ _ _ _ => trivial) ?_ ?_
  · rintro i x σ H2 H3 hi ⟨o0, o2, o3, o4, o5, o6, o7, o8, o9, o10, o11, o12, o13, o14, rfl, b2, tabs2⟩ g3 _
    have b3 := b2.go g3
    have tabs3 := g3.tabs tabs2
    refine ⟨.ref B, rfl, B, C, rfl, b3, fun l4 us4 ns4 H4 g4 b4 np4 hl4 hv4 lu4 => ?_⟩
    have tabs4 := g4.tabs tabs3
    have n4 := (bag_apart b3 np4).1
    refine ⟨3, rfl, by decide, by decide, ?_⟩
    refine lc_bag (T := T) (B := B) (C := C) it_rng (fun _ y H' => ∃ R, IsR (Th H') y R ∧ Can 0 R ∧ R.length ≤ 6) (by rw [sizeLine_eq]; decide) b4 (fun _ _ _ _ => trivial) (fun i y q H' H'' g h => by obtain ⟨R, h1, h2, h3⟩ := h; exact ⟨R, h1.goH g, h2, h3⟩) (fun i x H' Kc Kn hi g bb it kc => ?_) fun q ys H5 hq g5 b5 hl5 pr => ?_
    · refine ⟨rfl, lc_yes ⟨.ref B, rfl, .ref l4, rfl, B, C, l4, us4, ns4, rfl, bb, g.lst hl4 (by simpa using n4), n4, hv4.go g, lu4, g.tabs tabs4, fun v R H6 g6 b6 iv cR lR => ?_⟩⟩
      exact kc _ _ g6 b6 ⟨R, iv, cR, lR⟩
    have tabs5 := g5.tabs tabs4
    refine ⟨.ref B, rfl, .ref B, rfl, B, C, rfl, b5, fun l6 us6 ns6 H6 g6 b6 np6 hl6 hv6 lu6 => ?_⟩
    have tabs6 := g6.tabs tabs5
    have n6 := (bag_apart b5 np6).1
    refine ⟨B, C, l6, us6, ns6, rfl, b6, hl6, n6, hv6, lu6, tabs6, fun v7 R7 H7 g7 b7 iv7 cR7 lR7 => ?_⟩
    have nq := (bag_apart b4 hq).1
    have hq7 := g7.lst (g6.lst hl5 (by simpa using nq)) (by simpa using nq)
    have tabs7 := g7.tabs tabs6
    have g57 := g6.trans g7
    refine ⟨by show 1 ≤ sizeLine; decide, fun c hc => ?_⟩
    have g8 : Go T [] H7 (upd H7 c (.lst [v7])) := Go.new hc
    have lys : ys.length = 3 := by rw [Paired.lenEq pr, List.length_range]; rfl
    refine ⟨q, c, ys, [v7], rfl, rfl, g8.lst hq7, upd_same, by rw [lys, sizeLine_eq, List.length_singleton]; omega, fun F hF => ?_⟩
    have g9 : Go T [] (upd H7 c (.lst [v7])) (upd (upd H7 c (.lst [v7])) F (.lst (ys ++ [v7]))) := Go.new hF
    have g79 := g8.trans g9
    obtain ⟨Rs0, prs0⟩ := paired_ex pr
    have prs : Paired (fun v R => IsR (Th (upd (upd H7 c (.lst [v7])) F (.lst (ys ++ [v7])))) v R ∧ Can 0 R ∧ R.length ≤ 6) (ys ++ [v7]) (Rs0 ++ [R7]) := paired_app ⟨iv7.goH g79, cR7, lR7⟩ (Paired.mapP prs0 fun _ _ h => ⟨(h.1.goH g57).goH g79, h.2⟩)
    have lfs : (ys ++ [v7]).length = 4 := by rw [List.length_append, lys]; rfl
    have hF9 : upd (upd H7 c (.lst [v7])) F (.lst (ys ++ [v7])) F = some (.lst (ys ++ [v7])) := upd_same
    have b9 := b7.go g79
    have tabs9 := g79.tabs tabs7
    generalize upd (upd H7 c (.lst [v7])) F (.lst (ys ++ [v7])) = H9 at g9 prs hF9 b9 tabs9 g79 ⊢
    generalize ys ++ [v7] = fs at prs lfs hF9 ⊢
    generalize Rs0 ++ [R7] = Rs at prs
    have nFB : F ≠ B := by
      cases prs with
      | nil => cases lfs
      | cons a r =>
        obtain ⟨⟨x0, xs0, rfl, _⟩, _⟩ := a
        exact refs_ne b9 hF9
    refine ⟨.ref F, rfl, by decide, fun m hm => ?_⟩
    have g10 : Go T [] H9 (upd H9 m (.lst [])) := Go.new hm
    refine ⟨F, m, fs, Rs, rfl, g10.lst hF9, upd_same, Paired.mapP prs fun _ _ h => ⟨h.1.goH g10, h.2.2⟩, by omega, fun p us ns H11 g11 np hpt hends => ?_⟩
    have g911 := g10.trans g11
    have b11 := b9.go g911
    have tabs11 := g911.tabs tabs9
    have hF11 := g911.lst hF9
    have prs11 : Paired (fun v R => IsR (Th H11) v R ∧ Can 0 R ∧ R.length ≤ 6) fs Rs := Paired.mapP prs fun _ _ h => ⟨h.1.goH g911, h.2⟩
    have pB : p ≠ B := (bag_apart (b9.go g10) np).1
    have pF : p ≠ F := fun e => by
      rw [e] at np
      rw [g10.lst hF9] at np
      cases np
    have lus : us.length = ns.length := (Paired.lenEq hpt.vers).symm
    have pn : PtsN ns := ⟨hpt.asc, hpt.head, by rw [← lus]; exact hpt.few⟩
    have pf := pn.few
    have lRs : Rs.length = fs.length := Paired.lenEq prs
    refine ⟨.ref F, rfl, F, rfl, ⟨_, .of hF11⟩, ?_⟩
    refine lc_go (T := T) (M := []) (it_lst (xs := fs)) (fun _ => true) (fun i y H' => ∃ R, Rs[i]? = some R ∧ IsRow ns H' y R) (fun y q => y ≠ .ref q) (by rw [sizeLine_eq]; omega) (fun b m => by cases m)
      (fun q H' hq g => .of (g.lst hF11 (by simp only [List.mem_singleton]; rintro rfl; rw [hF11] at hq; cases hq))) (fun i y q H' H'' ap g h => by
        obtain ⟨R, e, z, rfl, hz⟩ := h
        exact ⟨R, e, z, rfl, g.lst hz (by simp only [List.mem_singleton]; exact fun e => ap (by rw [e]))⟩) (fun i x H' Kc Kn hi g it kc _ => ?_) fun L ls H12 hL g12 hl12 prl => ?_
    · have hRi : Rs[i]? = some (Rs[i]'(by omega)) := List.getElem?_eq_getElem (by omega)
      obtain ⟨iR, cR, lR⟩ := Paired.all prs11 i x _ it hRi
      generalize Rs[i]'(by omega) = R at hRi iR cR lR
      have hp' := hpt.go g (by simp)
      refine ⟨rfl, lc_yes ⟨.ref p, rfl, p, rfl, ⟨_, .of hp'.at_⟩, ?_⟩⟩
      refine lc_go (T := T) (M := []) (it_lst (xs := us)) (fun _ => true) (fun i y _ => ∃ n, ns[i]? = some n ∧ y = .bl (inR n R)) (fun _ _ => True) (by rw [sizeLine_eq]; omega) (fun b m => by cases m)
        (fun q H' hq g => .of (g.lst hp'.at_ (by simp only [List.mem_singleton]; rintro rfl; rw [hp'.at_] at hq; cases hq))) (fun i y q H' H'' _ _ e => e) (fun j x2 H2' Kc2 Kn2 hj g2 it2 kc2 _ => ?_) fun z zs H3' hz g3' hz3 prz => ?_
      · have hn : ns[j]? = some (ns[j]'(by omega)) := List.getElem?_eq_getElem (by omega)
        have iv := (Paired.all (Paired.flip hp'.vers) j _ x2 hn it2).goH g2
        exact ⟨rfl, lc_yes ⟨_, rfl, _, rfl, x, x2, R, _, rfl, ((iR.goH g).goH g2).soft, iv.soft, by omega, fun H4' g4' => kc2 _ _ rfl g4' ⟨_, hn, rfl⟩ fun _ _ _ => trivial⟩⟩
      · rw [keep_all, lus] at prz
        rw [map_of (f := fun n => V.bl (inR n R)) prz] at hz3
        have hz4 : H3' z = some (.lst ((rowOf ns R).map V.bl)) := by
          rw [hz3]
          unfold rowOf
          rw [List.map_map]
          rfl
        refine kc _ _ rfl g3' ⟨R, hRi, z, rfl, hz4⟩ fun q acc hqa e => ?_
        have e : z = q := by
          injection e
        rw [← e, hz] at hqa
        cases hqa
    rw [keep_all] at prl
    have lls : ls.length = fs.length := by rw [Paired.lenEq prl, List.length_range]
    have pL : p ≠ L := fun e => by
      rw [← e, hpt.at_] at hL
      cases hL
    have FL : F ≠ L := fun e => by
      rw [← e, hF11] at hL
      cases hL
    have hh12 : Held K H12 F L ns fs ls Rs := ⟨g12.lst hF11, hl12, Paired.mapP prs11 fun _ _ h => (h.1.goH g12).soft, Paired.ofGet (by omega) fun i y R hy hR => (by
      have hi := (List.getElem?_eq_some_iff.mp hy).1
      obtain ⟨R', e, h⟩ := Paired.all prl i i y (by rw [List.getElem?_range (by omega)]) hy
      rw [hR] at e
      cases e
      exact h), fun R hR => (by
      obtain ⟨i, hi⟩ := List.mem_iff_getElem?.mp hR
      obtain ⟨v, _, h⟩ := Paired.at (Paired.flip prs11) hi
      exact on_init pn h.2.1 (hends R hR)), by omega, by omega⟩
    have b12 := b11.go g12
    have hpt12 := hpt.go g12 (by simp)
    have tabs12 := g12.tabs tabs11
    refine ⟨.ref B, rfl, ?_⟩
    refine one_of b12 (by show 1 ≤ 3; decide) (by show 3 ≤ 1000; decide) fun j xn H13 hj g13 b13 => ?_
    have hh13 := hh12.goB b12 g13
    have hpt13 := hpt12.go g13 (by simpa using pB)
    have tabs13 := g13.tabs tabs12
    obtain ⟨n, rfl, hn12⟩ : ∃ n : Nat, xn = .int (n : Nat) ∧ n ≤ 12 := by
      have hjl := (List.getElem?_eq_some_iff.mp hj).1
      have hjl : j < 3 := hjl
      rcases (show j = 0 ∨ j = 1 ∨ j = 2 by omega) with rfl | rfl | rfl
      · exact ⟨8, (Option.some.inj hj).symm, by decide⟩
      · exact ⟨12, (Option.some.inj hj).symm, by decide⟩
      · exact ⟨10, (Option.some.inj hj).symm, by decide⟩
    refine ⟨(n : Int), rfl, by omega, by omega, ?_⟩
    let Pw : Nat → L2.St → Hp → Prop := fun i σ H' => ∃ (fs ls : List V) (Rs : List Rg) (o0 o2 o3 o7 o8 o9 o10 o11 o12 o13 o14 : Option V), σ = [o0, some (.ref B), o2, o3, some (.ref F), some (.ref p), some (.ref L), o7, o8, o9, o10, o11, o12, o13, o14] ∧ IsBag H' B C ∧ Pts H' p us ns 49 ∧ Held K H' F L ns fs ls Rs ∧ fs.length ≤ 4 + i ∧ LamX.Tabs T H'
    refine for_go (T := T) it_rng Pw ⟨fs, ls, Rs, _, _, _, _, _, _, _, _, _, _, _, rfl, b13, hpt13, hh13, by omega, tabs13⟩ (fun _ _ _ _ _ => trivial) ?_ ?_
    · rintro i2 x2 σ H14 H15 hi2 ⟨fs, ls, Rs, o0, o2, o3, o7, o8, o9, o10, o11, o12, o13, o14, rfl, b14, hpt14, hh14, lf14, tabs14⟩ g15 _
      have b15 := b14.go g15
      have hh15 := hh14.go0 g15
      have hpt15 := hpt14.go g15 (by simp)
      have tabs15 := g15.tabs tabs14
      refine ⟨.ref B, rfl, .ref F, rfl, .ref L, rfl, B, C, F, L, ns, fs, ls, Rs, rfl, b15, hh15, pn, tabs15, fun t q v R H16 g16 b16 ht iv hq on nq => ?_⟩
      have hh16 := hh15.goB b15 g16
      have hpt16 := hpt15.go g16 (by simpa using pB)
      have tabs16 := g16.tabs tabs15
      have lR := on_len pn on
      refine ⟨t, _, rfl, .of ht, rfl, _, _, rfl, _, _, rfl, rfl, ?_⟩
      refine ⟨.ref p, rfl, .ref q, rfl, p, q, us, ns, rowOf ns R, rfl, hpt16.at_, hpt16.vers, pn.asc, .of hq, rowOf_len, by omega, fun d hd => ?_⟩
      have g17 := Go.new (T := T) (M := []) (o := .dT (dKv ns (rowOf ns R))) hd
      refine ⟨.ref p, rfl, g17.tabs tabs16, fun fl c' H18 g18 nfl lf cf => ?_⟩
      have g1618 := g17.trans g18
      have hpt18 := hpt16.go g1618 (by simp)
      refine ⟨p, fl, d, us, ns, rowOf ns R, c', rfl, ⟨hpt18.at_, hpt18.vers, hpt18.asc, hpt18.head, by have := hpt18.few; omega⟩, rowOf_len, rfl, g18.dt upd_same, lf, cf, fun u H19 g19 iu => ?_⟩
      rw [on_eq pn on] at iu
      have g1619 := g1618.trans g19
      have iv19 := iv.go g1619
      have iu19 := iu.soft (K := K)
      have b19 := b16.go g1619
      have hh19 := hh16.go0 g1619
      have hpt19 := hpt16.go g1619 (by simp)
      have tabs19 := g1619.tabs tabs16
      have hq19 := g1619.lst hq
      have sm : Small R := by
        obtain ⟨_, _, _, _, ax⟩ := iu
        exact ax.small
      have sR := Sh.rng sm (by omega)
      -- the first likeness
      refine ⟨v, rfl, v, rfl, v, R, rfl, iv19, on.1, by omega, fun H20 g20 => ⟨by show 2 ≤ sizeLine; decide, fun t1 ht1 => ?_⟩⟩
      have k1 : Go T [] H20 (upd H20 t1 (.lst [v, .bl true])) := Go.new ht1
      refine ⟨u, rfl, by show 2 ≤ sizeLine; decide, fun t2 ht2 => ?_⟩
      have k2 : Go T [] (upd H20 t1 (.lst [v, .bl true])) (upd (upd H20 t1 (.lst [v, .bl true])) t2 (.lst [u, .bl true])) := Go.new ht2
      have g1922 := (g20.trans k1).trans k2
      have sh1 : Sh (.list [rngD R, .bool true]) 2000007 4 := Sh.list (.cons sR (.cons ((Sh.bool true).mono (by omega) (Nat.le_refl _)) .nil))
      refine ⟨t1, t2, .list [rngD R, .bool true], 2000007, rfl, .lst (.of (k2.lst upd_same)) (.cons (iv19.go g1922).dp (.cons (.bl _) .nil)), .lst (.of upd_same) (.cons (iu19.go g1922).dp (.cons (.bl _) .nil)), sh1.mono (Nat.le_refl _) (by decide), by rw [sizeLine_eq]; omega, ?_⟩
      refine ⟨_, rfl, iteF ?_⟩
      have iv22 := iv19.go g1922
      have iu22 := iu19.go g1922
      have b22 := b19.go g1922
      have hh22 := hh19.go0 g1922
      have hpt22 := hpt19.go g1922 (by simp)
      have tabs22 := g1922.tabs tabs19
      have hq22 := g1922.lst hq19
      generalize upd (upd H20 t1 (.lst [v, .bl true])) t2 (.lst [u, .bl true]) = H22 at iv22 iu22 b22 hh22 hpt22 tabs22 hq22 ⊢
      -- the second likeness
      have sT : Sh (.str (S (rngT R))) 1000000 3 := Sh.text (fun c hc => (rngT_ok R c hc).2.2) (rngT_len sm (by omega))
      refine ⟨v, rfl, v, R, rfl, iv22, by omega, fun H23 g23 => ?_⟩
      refine ⟨u, rfl, u, R, rfl, iu22.go g23, on.1, by omega, fun H24 g24 => ?_⟩
      refine ⟨R, rfl, on.1, sm, by omega, g24.tabs (g23.tabs tabs22), fun z H25 g25 iz => ?_⟩
      refine ⟨by show 2 ≤ sizeLine; decide, fun t3 ht3 => ?_⟩
      have k3 : Go T [] H25 (upd H25 t3 (.lst [.str (S (rngT R)), z])) := Go.new ht3
      have g2226 := ((g23.trans g24).trans g25).trans k3
      refine ⟨u, rfl, u, R, rfl, iu22.go g2226, on.1, by omega, fun H27 g27 => ?_⟩
      refine ⟨u, rfl, by show 2 ≤ sizeLine; decide, fun t4 ht4 => ?_⟩
      have k4 : Go T [] H27 (upd H27 t4 (.lst [.str (S (rngT R)), u])) := Go.new ht4
      have g2228 := (g2226.trans g27).trans k4
      have sh2 : Sh (.list [.str (S (rngT R)), rngD R]) 2000007 4 := Sh.list (.cons sT (.cons sR .nil))
      refine ⟨t3, t4, .list [.str (S (rngT R)), rngD R], 2000007, rfl, .lst (.of (k4.lst (g27.lst upd_same))) (.cons (.str _) (.cons (((iz.go k3).go g27).go k4).dp .nil)), .lst (.of upd_same) (.cons (.str _) (.cons (iu22.go g2228).dp .nil)), sh2.mono (Nat.le_refl _) (by decide), by rw [sizeLine_eq]; omega, ?_⟩
      refine ⟨_, rfl, iteF ?_⟩
      have iv28 := iv22.go g2228
      have b28 := b22.go g2228
      have hh28 := hh22.go0 g2228
      have hpt28 := hpt22.go g2228 (by simp)
      have tabs28 := g2228.tabs tabs22
      have hq28 := g2228.lst hq22
      generalize upd H27 t4 (.lst [.str (S (rngT R)), u]) = H28 at iv28 b28 hh28 hpt28 tabs28 hq28 ⊢
      have hi3 : i2 < n := by
        have := hi2
        omega
      obtain ⟨f1, f2, f3, f4, f5⟩ := held_app hh28 b28 hpt28 FL pF pL iv28 hq28 on (by omega) tabs28
      have llf : ls.length = fs.length := by rw [← Paired.lenEq hh28.pl, ← Paired.lenEq hh28.pf]
      refine ⟨.ref F, rfl, tyL hh28.atF, v, rfl, F, fs, v, rfl, rfl, hh28.atF, by rw [sizeLine_eq]; omega, ?_⟩
      refine ⟨.ref L, rfl, tyL f1, .ref q, rfl, L, ls, .ref q, rfl, rfl, f1, by rw [sizeLine_eq]; omega, ?_⟩
      exact ⟨fs ++ [v], ls ++ [.ref q], Rs ++ [R], _, _, _, _, _, _, _, _, _, _, _, rfl, f3, f4, f2, by rw [List.length_append, List.length_singleton]; omega, f5⟩
    · rintro σ H14 ⟨fs, ls, Rs, o0, o2, o3, o7, o8, o9, o10, o11, o12, o13, o14, rfl, b14, hpt14, hh14, lf14, tabs14⟩
      refine ⟨4, rfl, by decide, by decide, ?_⟩
      let Pz : Nat → L2.St → Hp → Prop := fun i σ H' => ∃ (o0 o2 o3 o7 o8 o9 o10 o11 o12 o13 o14 : Option V), σ = [o0, some (.ref B), o2, o3, some (.ref F), some (.ref p), some (.ref L), o7, o8, o9, o10, o11, o12, o13, o14] ∧ IsBag H' B C ∧ Pts H' p us ns 49 ∧ Held K H' F L ns fs ls Rs ∧ LamX.Tabs T H'
      refine for_go (T := T) it_rng Pz ⟨_, _, _, _, _, _, _, _, _, _, _, rfl, b14, hpt14, hh14, tabs14⟩ (fun _ _ _ _ _ => trivial) ?_ ?_
      · rintro i2 x2 σ H15 H16 hi2 ⟨o0, o2, o3, o7, o8, o9, o10, o11, o12, o13, o14, rfl, b15, hpt15, hh15, tabs15⟩ g16 _
        refine ⟨.ref B, rfl, .ref p, rfl, .ref F, rfl, .ref L, rfl, B, C, p, F, L, us, ns, fs, ls, Rs, rfl, b15.go g16, pB, hpt15.go g16 (by simp), hh15.go0 g16, g16.tabs tabs15, fun H17 g17 b17 => ?_⟩
        refine ⟨_, rfl, iteF ⟨_, _, _, _, _, _, _, _, _, _, _, rfl, b17, (hpt15.go g16 (by simp)).go g17 (by simpa using pB), (hh15.go0 g16).goB (b15.go g16) g17, g17.tabs (g16.tabs tabs15)⟩⟩
      · rintro σ H15 ⟨o0, o2, o3, o7, o8, o9, o10, o11, o12, o13, o14, rfl, b15, hpt15, hh15, tabs15⟩
        exact ⟨_, _, _, _, _, _, _, _, _, _, _, _, _, _, rfl, b15, tabs15⟩
  · rintro σ H2 ⟨o0, o2, o3, o4, o5, o6, o7, o8, o9, o10, o11, o12, o13, o14, rfl, b2, tabs2⟩
    exact qq _
end
end K3

/-! the end, told of the caller -/
namespace K3
open PySem PySem.Spec PyProof.Rows L2
/-- nothing is tracked but the tables and, where the head does not hold it, the script -/
def startH (ts : List Addr) (a : Addr) (o : Obj) (xs : List V) (fz : Bool) : Hp := fun b => if b ∈ ts then some (.tbl #[]) else if b = a then (if fz = true then some (.frz o (.lst xs)) else none) else none
section
variable {ts : List Addr} {a b : Addr} {o : Obj} {xs : List V} {fz : Bool}
theorem startH_tab (h : b ∈ ts) : startH ts a o xs fz b = some (.tbl #[]) := if_pos h
theorem startH_cases {u : HO} (h : startH ts a o xs fz b = some u) : (b ∈ ts ∧ u = .tbl #[]) ∨ (b = a ∧ b ∉ ts ∧ fz = true ∧ u = .frz o (.lst xs)) := by
  unfold startH at h
  split at h
  · exact .inl ⟨by assumption, (Option.some.inj h).symm⟩
  · split at h
    · split at h
      · exact .inr ⟨by assumption, by assumption, by assumption, (Option.some.inj h).symm⟩
      · cases h
    · cases h
theorem startH_a (h : a ∉ ts) : startH ts a o xs true a = some (.frz o (.lst xs)) := by
  unfold startH
  rw [if_neg h, if_pos rfl, if_pos rfl]
end
section
variable {P : Program} {w : World} {K : PySem.W.Frag} {mg mb : Str → Option Value} {k : Nat} {fa a : Addr} {cs : List (Addr × Addr)} {x : Str} {sp : SpA} {s₁ : Shared} {vs : List Value} {ns : List Int}
theorem call_end (KX : K.In s₁.heap) (hns : s₁.heap.Ns mainGlobals mg) (hb : s₁.heap.Ns builtinsNs mb) (hbb : ∀ x : Str, x ≠ "__name__" → mb x = bootBuiltins x) (hlim : s₁.heap.NoLimit) (hg : s₁.gens = #[])
    (hT : ∀ p ∈ cs, s₁.heap.get? p.2 = some { cls := .none, data := .fields #[] }) (nT : ∀ p ∈ cs, K.lookup p.2 = none) (hh : ∀ p ∈ cs, PySem.W.codeHdIn K p.1 p.2 = true)
    (hbm : ∃ (bm : Addr) (ob : Obj), mg "__builtins__" = some (.ref bm) ∧ bm ≠ builtinsNs ∧ s₁.heap.get? bm = some ob ∧ ob.cls = .type "module" ∧ ob.dict = some builtinsNs ∧ ob.data = .plain)
    (ha : s₁.heap.get? a = some { cls := .type "list", data := .seq vs.toArray }) (hi : IntsAre vs ns) (hl : ns.length ≤ sizeLine) (hr : Room k callerA)
    (F : ∀ base : Heap, K.In base → base.Ns mainGlobals mg → (∀ p ∈ cs, LamX.TabB base mg p.1 p.2) → ∃ fd, FnA P w K mg base k fa fd [x] sp ∧ Binds K fd [x] [])
    (hsp : ∀ H : Hp, (∀ p ∈ cs, H p.2 = some (.tbl #[])) → SqL K H a (ns.map V.int) → sp callerA [] s₁ [.ref a] H fun v _ => v = .bl true) :
    codeAny (model P w) callerA (.call (.ref fa) ⟨[.ref a], []⟩) (fun r s' => r = .ok (.ret (.bool true)) ∧ OldK s₁.heap s'.heap ∧ s'.os = s₁.os ∧ AllBare s'.gens) s₁ := by
  have mem : ∀ p ∈ cs, p.2 ∈ cs.map (·.2) := fun p hp => List.mem_map.mpr ⟨p, hp, rfl⟩
  have tabO : ∀ b ∈ cs.map (·.2), s₁.heap.get? b = some { cls := .none, data := .fields #[] } := fun b hb => by
    obtain ⟨p, hp, rfl⟩ := List.mem_map.mp hb
    exact hT p hp
  have aN : a ∉ cs.map (·.2) := fun z => by
    have e := tabO a z
    rw [ha] at e
    cases e
  have rv := vals_ints hi
  have lv := hi.length
  -- the script is frozen, or held by the head
  obtain ⟨fz, hfz, hS⟩ : ∃ fz : Bool, (fz = true → K.lookup a = none) ∧ SqL K (startH (cs.map (·.2)) a { cls := .type "list", data := .seq vs.toArray } (ns.map V.int) fz) a (ns.map V.int) := by
    cases hk : K.lookup a with
    | none => exact ⟨true, fun _ => rfl, .inl (.inr ⟨_, startH_a aN⟩)⟩
    | some ob =>
      have e := KX a ob hk
      rw [ha] at e
      cases e
      exact ⟨false, (fun z => by cases z), .inr ⟨_, vs.toArray, _, hk, rfl, rfl, rfl, by rw [List.size_toArray, lv]; exact hl, by simpa using rv⟩⟩
  generalize hH : startH (cs.map (·.2)) a { cls := .type "list", data := .seq vs.toArray } (ns.map V.int) fz = H at hS
  have cas : ∀ {b : Addr} {u : HO}, H b = some u → (b ∈ cs.map (·.2) ∧ u = .tbl #[]) ∨ (b = a ∧ b ∉ cs.map (·.2) ∧ fz = true ∧ u = .frz { cls := .type "list", data := .seq vs.toArray } (.lst (ns.map V.int))) := fun h => startH_cases (by rw [hH]; exact h)
  have atT : ∀ p ∈ cs, H p.2 = some (.tbl #[]) := fun p hp => by
    rw [← hH]
    exact startH_tab (mem p hp)
  -- what is not a list and not an empty record is not tracked
  have un0 : ∀ {b : Addr} {ob : Obj}, s₁.heap.get? b = some ob → (∀ vs n, ob.data ≠ .seq vs n) → ob.data ≠ .fields #[] → H b = none := fun {b ob} e h1 h2 => by
    cases q : H b with
    | none => rfl
    | some u =>
      rcases cas q with ⟨m, _⟩ | ⟨rfl, _⟩
      · rw [tabO b m] at e
        cases e
        exact (h2 rfl).elim
      · rw [ha] at e
        cases e
        exact (h1 _ _ rfl).elim
  have keepB : ∀ {b : Addr} {ob : Obj}, s₁.heap.get? b = some ob → (∀ vs n, ob.data ≠ .seq vs n) → ob.data ≠ .fields #[] → (hidT s₁.heap H).get? b = some ob := fun e h1 h2 => hidT_get e (un0 e h1 h2)
  have nsB : ∀ {b : Addr} {m : Str → Option Value}, s₁.heap.Ns b m → (hidT s₁.heap H).Ns b m := fun ⟨ob, es, ep, e, d, r⟩ => ⟨ob, es, ep, keepB e (fun vs n z => by rw [d] at z; cases z) (fun z => by rw [d] at z; cases z), d, r⟩
  have KB : K.In (hidT s₁.heap H) := fun b ob e => hidT_get (KX b ob e) (by
    cases q : H b with
    | none => rfl
    | some u =>
      rcases cas q with ⟨m, _⟩ | ⟨rfl, _, z, _⟩
      · obtain ⟨p, hp, rfl⟩ := List.mem_map.mp m
        rw [nT p hp] at e
        cases e
      · rw [hfz z] at e
        cases e)
  have okH : HOk P w H s₁.heap := fun b u q => by
    rcases cas q with ⟨m, rfl⟩ | ⟨rfl, _, _, rfl⟩
    · exact tabO b m
    · exact ⟨ha, by rw [List.length_map]; exact hl, vs, _, rv, ha⟩
  have MB : L2.Mod K mg (hidT s₁.heap H) := ⟨KB, nsB hns, ⟨mb, nsB hb, hbb⟩, let ⟨mc, h1, h2⟩ := hlim; ⟨mc, nsB h1, h2⟩⟩
  have TB : ∀ p ∈ cs, LamX.TabB (hidT s₁.heap H) mg p.1 p.2 := fun p hp => by
    obtain ⟨bm, ob, b1, b2, b3, b4, b5, b6⟩ := hbm
    obtain ⟨og, es, ep, eg, dg, _⟩ := id hns
    refine ⟨PySem.W.codeHd_of_K KB (hh p hp), ⟨bm, ob, b1, b2, fun z => ?_, fun z => ?_, keepB b3 (fun vs n z => by rw [b6] at z; cases z) (fun z => by rw [b6] at z; cases z), b4, b5, b6⟩, fun z => ?_⟩
    · rw [z, eg] at b3
      cases b3
      rw [dg] at b6
      cases b6
    · rw [z, hT p hp] at b3
      cases b3
      cases b6
    · rw [z, hT p hp] at eg
      cases eg
      cases dg
  have e0 : Env0 P w K mg (hidT s₁.heap H) callerA [] s₁ H := ⟨rfl, MB, fun b ob e => of_hidT e, Nat.le_of_eq (hidT_size _ _), trivial, (fun b m => by cases m), okH, .of_eq hg⟩
  obtain ⟨fd, FA, hB⟩ := F _ KB (nsB hns) TB
  refine codeAny_mono (FA.run callerA [] s₁ H ⟨[.ref a], []⟩ [.ref a] [.ref a] _ hr e0 (hB s₁ [.ref a] KX rfl) (.cons rfl .nil) (hsp H atT hS)) fun r s' h => ?_
  cases r with
  | error e => exact False.elim h
  | ok fl =>
    cases fl with
    | next => exact False.elim h
    | brk => exact False.elim h
    | cont => exact False.elim h
    | ret u =>
      obtain ⟨v, H', os, bare, un, ok', r', q⟩ := h
      obtain rfl : v = V.bl true := q
      obtain rfl : u = Value.bool true := r'
      have grown : ∀ p ∈ cs, ∃ more : Array Value, s'.heap.get? p.2 = some { cls := .none, data := .fields more } := fun p hp => by
        obtain ⟨more, z⟩ := un.tbls p.2 #[] (atT p hp)
        exact ⟨_, ok' p.2 _ z⟩
      have kept : ∀ b ob, b ∉ cs.map (·.2) → s₁.heap.get? b = some ob → s'.heap.get? b = some ob := fun b ob nb e => by
        cases q : H b with
        | none => exact un.keep b ob e q (fun z => by cases z) (by simp)
        | some u =>
          rcases cas q with ⟨m, _⟩ | ⟨rfl, _, _, rfl⟩
          · exact absurd m nb
          · obtain ⟨e2, _⟩ := ok' b _ (un.frzs b _ _ q)
            rw [ha] at e
            cases e
            exact e2
      refine ⟨rfl, ⟨fun b ob e => ?_, fun b ob e => ?_⟩, os, bare⟩
      · by_cases m : b ∈ cs.map (·.2)
        · obtain ⟨p, hp, rfl⟩ := List.mem_map.mp m
          obtain ⟨more, hm⟩ := grown p hp
          rw [hT p hp] at e
          cases e
          exact .inr (.inl ⟨((PySem.W.codeHd_of_K KX (hh p hp)).tab (hT p hp)).isCodeTable, rfl, #[], more, rfl, by rw [Array.empty_append]; exact hm⟩)
        · exact .inl (kept b ob m e)
      · by_cases m : b ∈ cs.map (·.2)
        · obtain ⟨p, hp, rfl⟩ := List.mem_map.mp m
          obtain ⟨more, hm⟩ := grown p hp
          exact ⟨_, hm⟩
        · exact ⟨ob, kept b ob m e⟩
end
end K3

namespace K3
open PySem PySem.Spec PyProof.Rows L2
/-- the three tables' places -/
def pU (K : PySem.W.Frag) : Addr := (He.cT K ("union", none)).2
def pA (K : PySem.W.Frag) : Addr := (He.cT K ("_law_any_range", none)).2
def pL (K : PySem.W.Frag) : Addr := (He.cT K ("law", none)).2
def exM (K : PySem.W.Frag) : Bool := exL K && (decide (pU K ≠ pA K) && (decide (pU K ≠ pL K) && decide (pA K ≠ pL K)))
abbrev hkM : PySem.W.Hook := He.hookX 4 faL fnL [] tfL exM
def obM (s : PySem.W.SharedT) : He.AlX := He.obsX 4 faL fnL [] tfL exM (HandSHeadRun.getT s)
theorem obM_eq (s : PySem.W.SharedT) : obM s = hkM.obs s.abs := He.obsX_eq (HandSHeadRun.getT_eq s)
theorem runM (w : World) : HandSHeadRun.RunEq RR (PySem.W.view RR.prog [61]) hkM obM 3000 looseL w := by
  intro os
  kernel_rfl
section
variable {K : PySem.W.Frag} {h base : Heap} {mg : Str → Option Value}
theorem top_of (X : K.In h) (G : h.Ns mainGlobals mg) (c : He.SaysD faL fnL K) (i : Nat) (x : Str) (st : Stmt) (hd : fnL[i]? = some ⟨(x, none), x, x, defArgs st, defBody st, defScope st, [], []⟩) (hf : faL[i]? = some (.glo x)) : Top K mg x st := by
  obtain ⟨fd, F⟩ := c.def_ i hd
  exact ⟨_, fd, fun_of F, He.glo_ok X G (c.fact i hf)⟩
theorem topT_of (X : K.In h) (G : h.Ns mainGlobals mg) (c : He.SaysD faL fnL K) (i : Nat) (x : Str) (st : Stmt) (hd : fnL[i]? = some ⟨(x, none), x, x, defArgs st, defBody st, defScope st, [], []⟩) (hf : faL[i]? = some (.glo x)) (TB : LamX.TabB base mg (He.cT K (x, none)).1 (He.cT K (x, none)).2) :
    TopT K mg base x st (He.cT K (x, none)).2 := by
  obtain ⟨fd, F⟩ := c.def_ i hd
  obtain ⟨oc, od, dV, kV, doc, pm, an, cdv, ct, osl, rfl, lk, hcd, hdv, _⟩ := F.ex
  rcases hdv with ⟨_, rfl⟩ | ⟨z, _⟩
  · obtain ⟨cc, rfl⟩ := He.codeIn_ref hcd
    have e : He.codeOf K (x, none) = cc := He.codeOf_eq lk rfl
    refine ⟨_, oc, od, kV, doc, pm, an, cc, ct, osl, lk, hcd, F.kp, He.glo_ok X G (c.fact i hf), ?_⟩
    rw [← e]
    exact TB
  · exact (z rfl).elim
theorem glo_of (X : K.In h) (G : h.Ns mainGlobals mg) (c : He.SaysD faL fnL K) (m : exM K = true) : Glo K mg := by
  unfold exM at m
  simp only [Bool.and_eq_true] at m
  refine ⟨fun x hx => ?_, He.int_ok X G (c.fact 51 (f := .int "MOST" 999999) rfl), He.int_ok X G (c.fact 52 (f := .int "MOST_OPEN" 30) rfl), He.str_ok X G (c.fact 53 (f := .str "DIGITS" "0123456789") rfl), He.ga K "LEAST", He.glo_ok X G (c.fact 50 (f := .glo "LEAST") rfl), fun H => He.tupB_ok m.1 H⟩
  refine He.free_ok X G ?_
  have hx : x ∈ blts := by simpa using hx
  simp only [blts, List.mem_cons, List.not_mem_nil, or_false] at hx
  rcases hx with rfl | rfl | rfl | rfl | rfl | rfl | rfl | rfl | rfl | rfl | rfl | rfl | rfl | rfl | rfl | rfl
  · exact c.fact 54 (f := .free "isinstance") rfl
  · exact c.fact 55 (f := .free "int") rfl
  · exact c.fact 56 (f := .free "bool") rfl
  · exact c.fact 57 (f := .free "tuple") rfl
  · exact c.fact 58 (f := .free "len") rfl
  · exact c.fact 59 (f := .free "all") rfl
  · exact c.fact 60 (f := .free "str") rfl
  · exact c.fact 61 (f := .free "sorted") rfl
  · exact c.fact 62 (f := .free "zip") rfl
  · exact c.fact 63 (f := .free "abs") rfl
  · exact c.fact 64 (f := .free "range") rfl
  · exact c.fact 65 (f := .free "set") rfl
  · exact c.fact 66 (f := .free "list") rfl
  · exact c.fact 67 (f := .free "enumerate") rfl
  · exact c.fact 68 (f := .free "dict") rfl
  · exact c.fact 69 (f := .free "repr") rfl
end
section
variable {P : Program} {w : World} {K : PySem.W.Frag} {h base : Heap} {mg : Str → Option Value}
abbrev TT (K : PySem.W.Frag) : Tbl := [(pU K, lamQ "union"), (pA K, lamQ "_law_any_range"), (pL K, lamQ "law")]
theorem law_of (X : K.In h) (G : h.Ns mainGlobals mg) (c : He.SaysD faL fnL K) (m : exM K = true) (TB : ∀ p ∈ tfL, LamX.TabB base mg (He.cT K p).1 (He.cT K p).2) : DefA P w K mg base 10 "law" ["_law_script"] (spLaw (TT K) K) := by
  have gl := glo_of X G c m
  unfold exM at m
  simp only [Bool.and_eq_true, decide_eq_true_eq] at m
  obtain ⟨_, n1, n2, n3⟩ := m
  have TI1 : TabIn (TT K) (pU K) (lamQ "union") := ⟨by simp, fun p hp e => by
    simp only [List.mem_cons, List.not_mem_nil, or_false] at hp
    rcases hp with rfl | rfl | rfl
    · rfl
    · exact absurd e.symm n1
    · exact absurd e.symm n2⟩
  have TI2 : TabIn (TT K) (pA K) (lamQ "_law_any_range") := ⟨by simp, fun p hp e => by
    simp only [List.mem_cons, List.not_mem_nil, or_false] at hp
    rcases hp with rfl | rfl | rfl
    · exact absurd e n1
    · rfl
    · exact absurd e.symm n3⟩
  have TI3 : TabIn (TT K) (pL K) (lamQ "law") := ⟨by simp, fun p hp e => by
    simp only [List.mem_cons, List.not_mem_nil, or_false] at hp
    rcases hp with rfl | rfl | rfl
    · exact absurd e n2
    · exact absurd e n3
    · rfl⟩
  have x_is_integer := ok_is_integer (P := P) (w := w) (K := K) (mg := mg) (base := base) gl (top_of X G c 0 "is_integer" s_is_integer rfl rfl)
  have x_is_version := ok_is_version (P := P) (w := w) (K := K) (mg := mg) (base := base) (T := TT K) gl (top_of X G c 1 "is_version" s_is_version rfl rfl) x_is_integer
  have x_is_above := ok_is_above (P := P) (w := w) (K := K) (mg := mg) (base := base) (top_of X G c 7 "is_above" s_is_above rfl rfl)
  have x_is_stretch := ok_is_stretch (P := P) (w := w) (K := K) (mg := mg) (base := base) (T := TT K) gl (top_of X G c 8 "is_stretch" s_is_stretch rfl rfl) x_is_version
  have x_is_range := ok_is_range (P := P) (w := w) (K := K) (mg := mg) (base := base) (T := TT K) gl (top_of X G c 9 "is_range" s_is_range rfl rfl) x_is_stretch
  have x_none_of := ok_none_of (P := P) (w := w) (K := K) (mg := mg) (base := base) (T := TT K) (top_of X G c 10 "none_of" s_none_of rfl rfl)
  have x_all_of := ok_all_of (P := P) (w := w) (K := K) (mg := mg) (base := base) (T := TT K) gl (top_of X G c 11 "all_of" s_all_of rfl rfl)
  have x_stretch := ok_stretch (P := P) (w := w) (K := K) (mg := mg) (base := base) (T := TT K) (top_of X G c 12 "stretch" s_stretch rfl rfl) x_is_above
  have x_raised := ok_raised (P := P) (w := w) (K := K) (mg := mg) (base := base) (T := TT K) gl (top_of X G c 5 "raised" s_raised rfl rfl)
  have x_after := ok_after (P := P) (w := w) (K := K) (mg := mg) (base := base) (T := TT K) gl (top_of X G c 6 "after" s_after rfl rfl) x_raised
  have x_just := ok_just (P := P) (w := w) (K := K) (mg := mg) (base := base) (T := TT K) (top_of X G c 13 "just" s_just rfl rfl) x_stretch x_after
  have x_least_in := ok_least_in (P := P) (w := w) (K := K) (mg := mg) (base := base) (T := TT K) (top_of X G c 19 "least_in" s_least_in rfl rfl)
  have x_rest := ok_rest (P := P) (w := w) (K := K) (mg := mg) (base := base) (T := TT K) gl (top_of X G c 15 "rest" s_rest rfl rfl) x_stretch
  have x_union := ok_union (P := P) (w := w) (K := K) (mg := mg) (base := base) (T := TT K) gl (topT_of X G c 14 "union" s_union rfl rfl (TB ("union", none) (by simp [tfL]))) TI1 x_is_above
  have x_meet := ok_meet (P := P) (w := w) (K := K) (mg := mg) (base := base) (T := TT K) (top_of X G c 16 "meet" s_meet rfl rfl) x_rest x_union
  have x_without := ok_without (P := P) (w := w) (K := K) (mg := mg) (base := base) (T := TT K) (top_of X G c 17 "without" s_without rfl rfl) x_rest x_meet
  have x_is_within := ok_is_within (P := P) (w := w) (K := K) (mg := mg) (base := base) (T := TT K) (top_of X G c 18 "is_within" s_is_within rfl rfl) x_without
  have x_parting_version := ok_parting_version (P := P) (w := w) (K := K) (mg := mg) (base := base) (T := TT K) (top_of X G c 20 "parting_version" s_parting_version rfl rfl) x_without x_union x_least_in
  have x_words_of := ok_words_of (P := P) (w := w) (K := K) (mg := mg) (base := base) (T := TT K) (top_of X G c 21 "words_of" s_words_of rfl rfl)
  have x_word_at := ok_word_at (P := P) (w := w) (K := K) (mg := mg) (base := base) gl (top_of X G c 22 "word_at" s_word_at rfl rfl)
  have x_led_range := ok_led_range (P := P) (w := w) (K := K) (mg := mg) (base := base) (T := TT K) gl (top_of X G c 23 "led_range" s_led_range rfl rfl) x_stretch
  have x_show_version := ok_show_version (P := P) (w := w) (K := K) (mg := mg) (base := base) (T := TT K) gl (top_of X G c 2 "show_version" s_show_version rfl rfl)
  have x_l_said := ok_l_said (P := P) (w := w) (K := K) (mg := mg) (base := base) (T := TT K) gl (top_of X G c 46 "_law_said" s_l_said rfl rfl)
  have x_number_in := ok_number_in (P := P) (w := w) (K := K) (mg := mg) (base := base) (T := TT K) gl (top_of X G c 3 "number_in" s_number_in rfl rfl)
  have x_version_in := ok_version_in (P := P) (w := w) (K := K) (mg := mg) (base := base) (T := TT K) gl (top_of X G c 4 "version_in" s_version_in rfl rfl) x_number_in
  have x_l_behind_version := ok_l_behind_version (P := P) (w := w) (K := K) (mg := mg) (base := base) (T := TT K) gl (top_of X G c 38 "_law_behind_version" s_l_behind_version rfl rfl)
  have x_show_stretch := ok_show_stretch (P := P) (w := w) (K := K) (mg := mg) (base := base) (T := TT K) gl (top_of X G c 30 "show_stretch" s_show_stretch rfl rfl) x_after x_show_version
  have x_show_range := ok_show_range (P := P) (w := w) (K := K) (mg := mg) (base := base) (T := TT K) (top_of X G c 31 "show_range" s_show_range rfl rfl) x_all_of x_show_stretch
  have x_l_show_range := ok_l_show_range (P := P) (w := w) (K := K) (mg := mg) (base := base) (T := TT K) (top_of X G c 47 "_law_show_range" s_l_show_range rfl rfl) x_l_behind_version x_l_said
  have x_read_atom := ok_read_atom (P := P) (w := w) (K := K) (mg := mg) (base := base) (T := TT K) gl (top_of X G c 24 "read_atom" s_read_atom rfl rfl) x_word_at x_all_of x_none_of x_version_in x_led_range x_just
  have x_read_term := ok_read_term (P := P) (w := w) (K := K) (mg := mg) (base := base) (T := TT K) gl (top_of X G c 25 "read_term" s_read_term rfl rfl) x_word_at x_read_atom
  have x_read_meets := ok_read_meets (P := P) (w := w) (K := K) (mg := mg) (base := base) (T := TT K) (top_of X G c 26 "read_meets" s_read_meets rfl rfl) x_word_at x_read_term x_meet
  have x_read_joined := ok_read_joined (P := P) (w := w) (K := K) (mg := mg) (base := base) (T := TT K) (top_of X G c 27 "read_joined" s_read_joined rfl rfl) x_word_at x_read_meets x_union
  have x_range_in := ok_range_in (P := P) (w := w) (K := K) (mg := mg) (base := base) (T := TT K) gl (top_of X G c 28 "range_in" s_range_in rfl rfl) x_read_joined
  have x_read_range := ok_read_range (P := P) (w := w) (K := K) (mg := mg) (base := base) (T := TT K) gl (top_of X G c 29 "read_range" s_read_range rfl rfl) x_words_of x_range_in
  have x_l_bag := ok_l_bag (P := P) (w := w) (K := K) (mg := mg) (base := base) (T := TT K) gl (top_of X G c 32 "_law_bag" s_l_bag rfl rfl)
  have x_l_take := ok_l_take (P := P) (w := w) (K := K) (mg := mg) (base := base) (T := TT K) gl (top_of X G c 33 "_law_take" s_l_take rfl rfl)
  have x_l_one := ok_l_one (P := P) (w := w) (K := K) (mg := mg) (base := base) (T := TT K) gl (top_of X G c 34 "_law_one" s_l_one rfl rfl) x_l_take
  have x_l_versions := ok_l_versions (P := P) (w := w) (K := K) (mg := mg) (base := base) (T := TT K) gl (top_of X G c 35 "_law_versions" s_l_versions rfl rfl) x_l_take x_l_one
  have x_l_version := ok_l_version (P := P) (w := w) (K := K) (mg := mg) (base := base) (T := TT K) gl (top_of X G c 36 "_law_version" s_l_version rfl rfl) x_l_one
  have x_l_far_versions := ok_l_far_versions (P := P) (w := w) (K := K) (mg := mg) (base := base) (T := TT K) gl (top_of X G c 37 "_law_far_versions" s_l_far_versions rfl rfl) x_l_take x_l_one x_l_versions x_l_version
  have x_l_near_points := ok_l_near_points (P := P) (w := w) (K := K) (mg := mg) (base := base) (T := TT K) gl (top_of X G c 39 "_law_near_points" s_l_near_points rfl rfl) x_l_behind_version
  have x_l_range_by := ok_l_range_by (P := P) (w := w) (K := K) (mg := mg) (base := base) (T := TT K) gl (top_of X G c 40 "_law_range_by" s_l_range_by rfl rfl)
  have x_l_any_range := ok_l_any_range (P := P) (w := w) (K := K) (mg := mg) (base := base) (T := TT K) gl (topT_of X G c 41 "_law_any_range" s_l_any_range rfl rfl (TB ("_law_any_range", none) (by simp [tfL]))) TI2 x_l_take x_l_one x_l_near_points x_l_range_by
  have x_l_points := ok_l_points (P := P) (w := w) (K := K) (mg := mg) (base := base) (T := TT K) gl (top_of X G c 42 "_law_points" s_l_points rfl rfl)
  have x_l_is_in := ok_l_is_in (P := P) (w := w) (K := K) (mg := mg) (base := base) (T := TT K) (top_of X G c 43 "_law_is_in" s_l_is_in rfl rfl)
  have x_l_deed := ok_l_deed (P := P) (w := w) (K := K) (mg := mg) (base := base) (T := TT K) gl (top_of X G c 44 "_law_deed" s_l_deed rfl rfl) x_l_take x_union x_meet x_without x_rest
  have x_l_alike := ok_l_alike (P := P) (w := w) (K := K) (mg := mg) (base := base) gl (top_of X G c 45 "_law_alike" s_l_alike rfl rfl)
  have x_l_are_parted := ok_l_are_parted (P := P) (w := w) (K := K) (mg := mg) (base := base) (T := TT K) gl (top_of X G c 48 "_law_are_parted" s_l_are_parted rfl rfl) x_l_take x_parting_version x_is_within x_l_alike
  exact ok_law gl (topT_of X G c 49 "law" s_law rfl rfl (TB ("law", none) (by simp [tfL]))) TI3 x_l_bag x_l_far_versions x_l_any_range x_l_points x_l_is_in x_l_one x_l_deed x_l_range_by x_l_alike x_is_range x_show_range x_read_range x_l_show_range x_l_are_parted
end
end K3

namespace K3
open PySem PySem.W PySem.Calls PyProof.Rows
theorem walkL : WalkO (view RR.prog [61]) looseL (XL (view RR.prog [61]) []) hkM.says RR.toRowW (HandSHeadRun.topDef RR.prog 61) [] fun f vs => PySem.call f vs := by
  refine Att.attach_callB (n := 63) rfl (by kernel_rfl) fun w s₀ s₁ mg mb fa o pm cd doc a vs ns G Y ho hd hcd hmg hobj hints hlen hbits hg => ?_
  obtain ⟨K, KX, c⟩ := Y
  have hmg : mg ("law" : PySem.Str) = some (.ref fa) := by
    have e : (HandSHeadRun.topDef RR.prog 61).name = ("law" : PySem.Str) := by kernel_rfl
    rw [← e]
    exact hmg
  have hmem : ∀ p ∈ tfL.map (He.cT K), ∃ q ∈ tfL, p = He.cT K q := fun p hp => by
    obtain ⟨q, hq, rfl⟩ := List.mem_map.mp hp
    exact ⟨q, hq, rfl⟩
  refine call_end (cs := tfL.map (He.cT K)) (k := 10) (x := "_law_script") (sp := spLaw (TT K) K) KX G.T.g G.T.b G.T.builtins G.T.nolimit hg (fun p hp => ?_) (fun p hp => ?_) (fun p hp => ?_) G.T.bmain hobj hints (Nat.le_trans hlen (by decide)) ⟨rfl, by decide, by decide⟩ (fun base KB NB TB => ?_) fun H hH hS => ?_
  · obtain ⟨q, hq, rfl⟩ := hmem p hp
    exact c.empty q hq
  · obtain ⟨q, hq, rfl⟩ := hmem p hp
    exact c.out q hq
  · obtain ⟨q, hq, rfl⟩ := hmem p hp
    exact c.hd q hq
  · obtain ⟨f, fd, F, hf, _, B⟩ := (law_of (P := _) (w := w) (base := base) KX G.T.g c.t.d c.more fun p hp => TB _ (List.mem_map.mpr ⟨p, hp, rfl⟩)).ex
    rw [hmg] at hf
    cases hf
    exact ⟨fd, F, B⟩
  · refine ⟨rfl, a, ns, rfl, hS, ?_, fun _ => rfl⟩
    intro p hp
    simp only [TT, List.mem_cons, List.not_mem_nil, or_false] at hp
    rcases hp with rfl | rfl | rfl
    · exact LamX.TabS.nil (hH (He.cT K ("union", none)) (List.mem_map.mpr ⟨_, by simp [tfL], rfl⟩))
    · exact LamX.TabS.nil (hH (He.cT K ("_law_any_range", none)) (List.mem_map.mpr ⟨_, by simp [tfL], rfl⟩))
    · exact LamX.TabS.nil (hH (He.cT K ("law", none)) (List.mem_map.mpr ⟨_, by simp [tfL], rfl⟩))
end K3
open PySem PySem.W PySem.Calls PyProof.Rows
theorem PySem.Challenge.cw_packsworn_k03_whole_ranges_put_together_holds : PySem.Challenge.rw_packsworn_k03_whole_ranges_put_together.Holds := by
  w_on; o_law
  refine HandSHeadRun.head_any (r := K3.RR) (q := view K3.RR.prog [61]) (H := K3.hkM) (ob := K3.obM) (M := 3000) (loose := K3.looseL) (d := HandSHeadRun.topDef K3.RR.prog 61) (kwd := []) K3.obM_eq
    (by kernel_rfl) (fun s => by kernel_rfl) K3.runM (by kernel_rfl) (by kernel_rfl) (by kernel_rfl) (by rfl) (by first | assumption | decide +kernel) (by decide +kernel) ⟨rfl, rfl, rfl, rfl, rfl, by decide +kernel⟩ ?hw K3.walkL
  case hw => w_witness2

