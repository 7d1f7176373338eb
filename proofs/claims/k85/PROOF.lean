import PyProof.Rows.All
import Lean
import Wide.All
import OpenK.AllK
import Wide.FinOn
import PyProof.EqAt
import PyProof.EqKinds
import PyProof.TupleCall
import KE.KExcSuper
import HandS.ForMost
import HandS.ForExc
import HandS.ExcInit
import HandS.HeadWalk
import KE.KExcIs
import HandS.ExcIs
import HandS.IsInst
import KE.KStateDown
import HandS.Head0
import HandS.Head1
import HandS.Head2
import HandS.HeadEnd
import HandS.HeadHook1
import HandS.HeadHook2
import HandS.HeadHook3
import HandS.HeadHook4
import HandS.Walk
import HandS.Replace
import HandS.ReplaceLit
import HandS.ReplaceList
import HandS.AnyAll
import HandS.EndBits
import HandS.EndTab
import HandS.TupAny
import HandS.Style
import HandS.Wide
import PySem.Challenge.RW_plaidwork_k85_whole_comma_parted_texts
set_option linter.all false
/-! Plain lists of signs: comma-parted lines, written and read. -/
namespace K85
abbrev T := List Nat

def plainF (f : T) : Bool := !(decide (44 ∈ f)) && !(decide (34 ∈ f))
def dbl : T → T
  | [] => []
  | c :: r => if c = 34 then 34 :: 34 :: dbl r else c :: dbl r
def ft (f : T) : T := if plainF f = true then f else 34 :: (dbl f ++ [34])
inductive Md where
  | start | plain | closed | quote
  deriving DecidableEq
def pr (c : Nat) : Bool := decide (32 ≤ c) && decide (c ≤ 126)

/-- what the reading sign by sign has still to give: the fields from here on -/
def P : Md → T → T → Option (List T)
  | m, f, [] => if m = .closed ∨ (m = .quote ∧ ft f = f) then none else some [f]
  | m, f, c :: r => if pr c = false then none else
    match m with
    | .start => if c = 44 then (P .start [] r).map (f :: ·) else if c = 34 then P .closed f r else P .plain (f ++ [c]) r
    | .plain => if c = 44 then (P .start [] r).map (f :: ·) else if c = 34 then none else P .plain (f ++ [c]) r
    | .closed => if c = 34 then P .quote f r else P .closed (f ++ [c]) r
    | .quote => if c = 34 then P .closed (f ++ [34]) r else if c = 44 ∧ ft f ≠ f then (P .start [] r).map (f :: ·) else none

theorem plain_iff {f : T} : plainF f = true ↔ 44 ∉ f ∧ 34 ∉ f := by
  unfold plainF
  simp
theorem plain_nil : plainF [] = true := rfl
theorem plain_snoc {f : T} {c : Nat} (h : plainF f = true) (h1 : c ≠ 44) (h2 : c ≠ 34) : plainF (f ++ [c]) = true := by
  rw [plain_iff] at h ⊢
  simp
  exact ⟨⟨h.1, fun e => h1 e.symm⟩, h.2, fun e => h2 e.symm⟩
theorem ft_plain {f : T} (h : plainF f = true) : ft f = f := by
  unfold ft
  rw [if_pos h]
theorem ft_not {f : T} (h : plainF f = false) : ft f = 34 :: (dbl f ++ [34]) := by
  unfold ft
  rw [if_neg (by rw [h]; exact Bool.false_ne_true)]
theorem dbl_append : ∀ (f g : T), dbl (f ++ g) = dbl f ++ dbl g
  | [], g => rfl
  | c :: r, g => by
    show dbl (c :: (r ++ g)) = dbl (c :: r) ++ dbl g
    rw [dbl, dbl, dbl_append r g]
    split <;> rfl
theorem dbl_other {c : Nat} (h : c ≠ 34) : dbl [c] = [c] := by
  unfold dbl
  rw [if_neg h]
  rfl
theorem dbl_q : dbl [34] = [34, 34] := rfl
theorem dbl_len : ∀ f : T, f.length ≤ (dbl f).length ∧ (dbl f).length ≤ 2 * f.length
  | [] => ⟨Nat.le_refl _, Nat.le_refl _⟩
  | c :: r => by
    have h := dbl_len r
    unfold dbl
    split <;> simp only [List.length_cons] <;> omega
theorem ft_len (f : T) : (ft f).length ≤ 2 * f.length + 2 := by
  unfold ft
  have h := dbl_len f
  split
  · omega
  · simp only [List.length_cons, List.length_append, List.length_nil]
    omega
theorem ft_self {f : T} : ft f = f ↔ plainF f = true := by
  constructor
  · intro h
    cases hp : plainF f with
    | true => rfl
    | false =>
      rw [ft_not hp] at h
      have h2 := congrArg List.length h
      have h3 := dbl_len f
      simp only [List.length_cons, List.length_append, List.length_nil] at h2
      omega
  · exact ft_plain

/-! ### a sign that is none -/
theorem P_bad : ∀ (l : T) (m : Md) (f : T), (∃ c ∈ l, pr c = false) → P m f l = none
  | [], _, _, h => by
    obtain ⟨c, hc, _⟩ := h
    cases hc
  | c :: r, m, f, h => by
    unfold P
    cases hc : pr c with
    | false => rw [if_pos rfl]
    | true =>
      rw [if_neg (by simp)]
      have hr : ∃ c ∈ r, pr c = false := by
        obtain ⟨d, hd, e⟩ := h
        rcases List.mem_cons.mp hd with z | z
        · rw [z, hc] at e
          cases e
        · exact ⟨d, z, e⟩
      have ih := fun m f => P_bad r m f hr
      cases m with
      | start => simp [ih]
      | plain => simp [ih]
      | closed => simp [ih]
      | quote => simp [ih]

/-! ### plain fields -/
def untilC (l : T) : T := l.takeWhile (fun c => decide (c ≠ 44))
theorem untilC_nil : untilC [] = [] := rfl
theorem untilC_comma (r : T) : untilC (44 :: r) = [] := rfl
theorem untilC_cons {c : Nat} {r : T} (h : c ≠ 44) : untilC (c :: r) = c :: untilC r := by
  unfold untilC
  rw [List.takeWhile_cons, if_pos (by simpa using h)]
theorem untilC_no (l : T) : 44 ∉ untilC l := by
  induction l with
  | nil => intro h; cases h
  | cons c r ih =>
    by_cases h : c = 44
    · subst h
      intro h
      cases h
    · rw [untilC_cons h]
      intro z
      rcases List.mem_cons.mp z with z | z
      · exact h z.symm
      · exact ih z
/-- behind the sign at which a plain field ends -/
theorem untilC_rest (l : T) : l = untilC l ++ l.drop (untilC l).length ∧ (l.drop (untilC l).length = [] ∨ ∃ r, l.drop (untilC l).length = 44 :: r) := by
  induction l with
  | nil => exact ⟨rfl, .inl rfl⟩
  | cons c r ih =>
    by_cases h : c = 44
    · subst h
      exact ⟨rfl, .inr ⟨r, rfl⟩⟩
    · rw [untilC_cons h]
      simp only [List.length_cons, List.drop_succ_cons]
      exact ⟨by rw [List.cons_append, ← ih.1], ih.2⟩
theorem untilC_le (l : T) : (untilC l).length ≤ l.length := by
  have h := congrArg List.length (untilC_rest l).1
  rw [List.length_append] at h
  omega
theorem untilC_take (l : T) : l.take (untilC l).length = untilC l := by
  have h := (untilC_rest l).1
  generalize hk : (untilC l).length = k at h ⊢
  exact (congrArg (List.take k) h).trans (List.take_left' hk)

theorem P_plain : ∀ (l f : T), (∀ c ∈ l, pr c = true) → (34 ∈ untilC l → P .plain f l = none) ∧ (34 ∉ untilC l → l.drop (untilC l).length = [] → P .plain f l = some [f ++ untilC l]) ∧
    (34 ∉ untilC l → ∀ r, l.drop (untilC l).length = 44 :: r → P .plain f l = (P .start [] r).map ((f ++ untilC l) :: ·))
  | [], f, _ => by
    refine ⟨fun h => ?_, fun _ _ => ?_, fun _ r h => ?_⟩
    · cases h
    · unfold P
      simp [untilC]
    · cases h
  | c :: l, f, hp => by
    have hc : pr c = true := hp c List.mem_cons_self
    have hl : ∀ c ∈ l, pr c = true := fun d hd => hp d (List.mem_cons_of_mem _ hd)
    by_cases h44 : c = 44
    · subst h44
      refine ⟨fun h => (by cases h), fun _ h => (by cases h), fun _ r h => ?_⟩
      have e : l = r := by
        have := h
        simp [untilC_comma] at this
        exact this
      subst e
      conv => lhs; unfold P
      simp [hc, untilC_comma]
    · rw [untilC_cons h44]
      simp only [List.length_cons, List.drop_succ_cons]
      by_cases h34 : c = 34
      · subst h34
        refine ⟨fun _ => ?_, fun h => absurd List.mem_cons_self h, fun h => absurd List.mem_cons_self h⟩
        unfold P
        simp [hc]
      · have ih := P_plain l (f ++ [c]) hl
        have e : P .plain f (c :: l) = P .plain (f ++ [c]) l := by
          conv => lhs; unfold P
          simp [hc, h44, h34]
        rw [e]
        refine ⟨fun h => ih.1 ?_, fun h hd => ?_, fun h r hd => ?_⟩
        · rcases List.mem_cons.mp h with z | z
          · exact absurd z.symm h34
          · exact z
        · rw [ih.2.1 (fun z => h (List.mem_cons_of_mem _ z)) hd, List.append_assoc]
          rfl
        · rw [ih.2.2 (fun z => h (List.mem_cons_of_mem _ z)) r hd, List.append_assoc]
          rfl
/-- a field that does not begin with a quote -/
theorem P_bare (l : T) (hp : ∀ c ∈ l, pr c = true) (hq : l.head? ≠ some 34) : (34 ∈ untilC l → P .start [] l = none) ∧ (34 ∉ untilC l → l.drop (untilC l).length = [] → P .start [] l = some [untilC l]) ∧
    (34 ∉ untilC l → ∀ r, l.drop (untilC l).length = 44 :: r → P .start [] l = (P .start [] r).map (untilC l :: ·)) := by
  cases l with
  | nil =>
    refine ⟨fun h => (by cases h), fun _ _ => ?_, fun _ r h => (by cases h)⟩
    unfold P
    simp [untilC]
  | cons c l =>
    have hc : pr c = true := hp c List.mem_cons_self
    have hl : ∀ c ∈ l, pr c = true := fun d hd => hp d (List.mem_cons_of_mem _ hd)
    have h34 : c ≠ 34 := fun e => hq (by rw [e]; rfl)
    by_cases h44 : c = 44
    · subst h44
      refine ⟨fun h => (by cases h), fun _ h => (by cases h), fun _ r h => ?_⟩
      have e : l = r := by
        have := h
        simp [untilC_comma] at this
        exact this
      subst e
      conv => lhs; unfold P
      simp [hc, untilC_comma]
    · have e : P .start [] (c :: l) = P .plain [c] l := by
        conv => lhs; unfold P
        simp [hc, h44, h34]
      rw [e, untilC_cons h44]
      simp only [List.length_cons, List.drop_succ_cons]
      have ih := P_plain l [c] hl
      refine ⟨fun h => ih.1 ?_, fun h hd => ?_, fun h r hd => ?_⟩
      · rcases List.mem_cons.mp h with z | z
        · exact absurd z.symm h34
        · exact z
      · rw [ih.2.1 (fun z => h (List.mem_cons_of_mem _ z)) hd]
        rfl
      · rw [ih.2.2 (fun z => h (List.mem_cons_of_mem _ z)) r hd]
        rfl

/-! ### quoted fields: l stands behind the opening quote, n signs were seen -/
def cs : Nat → T → Nat
  | _, [] => 0
  | n, [c] => if c = 34 then n + 1 else 0
  | n, c :: d :: r => if c = 34 then (if d = 34 then cs (n + 2) r else n + 1) else cs (n + 1) (d :: r)
theorem cs_spec : ∀ (l : T) (n : Nat), (∀ c ∈ l, pr c = true) →
    (cs n l = 0 ∧ ∀ f, P .closed f l = none) ∨ (∃ g r, l = dbl g ++ 34 :: r ∧ r.head? ≠ some 34 ∧ cs n l = n + (dbl g).length + 1 ∧ ∀ f, P .closed f l = P .quote (f ++ g) r)
  | [], n, _ => .inl ⟨rfl, fun f => by unfold P; simp⟩
  | [c], n, hp => by
    have hc : pr c = true := hp c List.mem_cons_self
    by_cases h : c = 34
    · subst h
      refine .inr ⟨[], [], rfl, by simp, rfl, fun f => ?_⟩
      conv => lhs; unfold P
      simp [hc]
    · refine .inl ⟨by unfold cs; rw [if_neg h], fun f => ?_⟩
      unfold P
      simp [hc, h]
      unfold P
      simp
  | c :: d :: r, n, hp => by
    have hc : pr c = true := hp c List.mem_cons_self
    have hd : pr d = true := hp d (List.mem_cons_of_mem _ List.mem_cons_self)
    have h1 : ∀ x ∈ d :: r, pr x = true := fun x hx => hp x (List.mem_cons_of_mem _ hx)
    have h2 : ∀ x ∈ r, pr x = true := fun x hx => h1 x (List.mem_cons_of_mem _ hx)
    by_cases h : c = 34
    · subst h
      by_cases h' : d = 34
      · subst h'
        have e : ∀ f, P .closed f (34 :: 34 :: r) = P .closed (f ++ [34]) r := fun f => by
          conv => lhs; unfold P
          simp [hc]
          conv => lhs; unfold P
          simp [hc]
        have ec : cs n (34 :: 34 :: r) = cs (n + 2) r := by
          conv => lhs; unfold cs
          simp
        rcases cs_spec r (n + 2) h2 with ⟨z, q⟩ | ⟨g, r', z1, z2, z3, q⟩
        · exact .inl ⟨ec.trans z, fun f => (e f).trans (q _)⟩
        · refine .inr ⟨34 :: g, r', ?_, z2, ?_, fun f => ?_⟩
          · rw [z1]
            rfl
          · rw [ec, z3]
            show n + 2 + (dbl g).length + 1 = n + (dbl g).length.succ.succ + 1
            omega
          · rw [e f, q, List.append_assoc]
            rfl
      · refine .inr ⟨[], d :: r, rfl, by simpa using h', ?_, fun f => ?_⟩
        · conv => lhs; unfold cs
          simp [h']
          rfl
        · conv => lhs; unfold P
          simp [hc]
    · have e : ∀ f, P .closed f (c :: d :: r) = P .closed (f ++ [c]) (d :: r) := fun f => by
        conv => lhs; unfold P
        simp [hc, h]
      have ec : cs n (c :: d :: r) = cs (n + 1) (d :: r) := by
        conv => lhs; unfold cs
        simp [h]
      rcases cs_spec (d :: r) (n + 1) h1 with ⟨z, q⟩ | ⟨g, r', z1, z2, z3, q⟩
      · exact .inl ⟨ec.trans z, fun f => (e f).trans (q _)⟩
      · have ed : dbl (c :: g) = c :: dbl g := by
          conv => lhs; unfold dbl
          rw [if_neg h]
        refine .inr ⟨c :: g, r', ?_, z2, ?_, fun f => ?_⟩
        · rw [z1, ed]
          rfl
        · rw [ec, z3, ed]
          simp only [List.length_cons]
          omega
        · rw [e f, q, List.append_assoc]
          rfl

theorem P_quote (g r : T) (hp : ∀ c ∈ r, pr c = true) (hr : r.head? ≠ some 34) : (plainF g = true → P .quote g r = none) ∧ (plainF g = false → r = [] → P .quote g r = some [g]) ∧
    (plainF g = false → ∀ r', r = 44 :: r' → P .quote g r = (P .start [] r').map (g :: ·)) ∧ (∀ c r', r = c :: r' → c ≠ 44 → P .quote g r = none) := by
  refine ⟨fun h => ?_, fun h e => ?_, fun h r' e => ?_, fun c r' e hc => ?_⟩
  · have hf := ft_plain h
    cases r with
    | nil =>
      unfold P
      simp [hf]
    | cons c r' =>
      have h34 : c ≠ 34 := fun e => hr (by rw [e]; rfl)
      unfold P
      simp [hf, h34]
  · subst e
    have hf : ft g ≠ g := fun z => by
      rw [ft_self.mp z] at h
      cases h
    unfold P
    simp [hf]
  · subst e
    have hf : ft g ≠ g := fun z => by
      rw [ft_self.mp z] at h
      cases h
    conv => lhs; unfold P
    simp [hf, hp 44 List.mem_cons_self]
  · subst e
    have h34 : c ≠ 34 := fun e => hr (by rw [e]; rfl)
    unfold P
    simp [h34, hc]
/-- a field that begins with a quote, l stands behind it -/
theorem P_open (l : T) (h34 : pr 34 = true) : P .start [] (34 :: l) = P .closed [] l := by
  conv => lhs; unfold P
  simp [h34]

/-! ### what is written is read -/
def joinC : List T → T
  | [] => []
  | [f] => f
  | f :: g :: r => f ++ 44 :: joinC (g :: r)
theorem P_ne : ∀ (l : T) (m : Md) (f : T), P m f l ≠ some []
  | [], m, f => by
    unfold P
    split <;> simp
  | c :: r, m, f => by
    have ih := fun m f => P_ne r m f
    unfold P
    cases m <;> simp only <;> split <;> (try simp) <;> (repeat' split) <;> simp_all
def lead : Md → T → T
  | .start, f => f
  | .plain, f => f
  | .closed, f => 34 :: dbl f
  | .quote, f => 34 :: (dbl f ++ [34])
theorem joinC_cons {f : T} {fs : List T} (h : fs ≠ []) : joinC (f :: fs) = f ++ 44 :: joinC fs := by
  cases fs with
  | nil => exact absurd rfl h
  | cons g r => rfl
theorem P_comma {r f : T} {fs : List T} (ih : ∀ fs', P .start [] r = some fs' → joinC (fs'.map ft) = r) (h : (P .start [] r).map (f :: ·) = some fs) : joinC (fs.map ft) = ft f ++ 44 :: r := by
  cases e : P .start [] r with
  | none =>
    rw [e] at h
    cases h
  | some fs' =>
    rw [e] at h
    have e2 : f :: fs' = fs := Option.some.inj h
    subst e2
    have ne : fs' ≠ [] := fun z => P_ne r .start [] (by rw [e, z])
    rw [List.map_cons, joinC_cons (by simpa using ne), ih fs' e]
theorem P_back : ∀ (l : T) (m : Md) (f : T) (fs : List T), (m = .start → f = []) → (m = .plain → plainF f = true) → P m f l = some fs → joinC (fs.map ft) = lead m f ++ l
  | [], m, f, fs, h1, h2, h => by
    unfold P at h
    rw [List.append_nil]
    cases m with
    | start =>
      have e := h1 rfl
      subst e
      simp at h
      subst h
      rfl
    | plain =>
      simp at h
      subst h
      exact ft_plain (h2 rfl)
    | closed => simp at h
    | quote =>
      by_cases e : ft f = f
      · simp [e] at h
      · simp [e] at h
        subst h
        have hp : plainF f = false := by
          cases q : plainF f with
          | false => rfl
          | true => exact absurd (ft_plain q) e
        exact ft_not hp
  | c :: r, m, f, fs, h1, h2, h => by
    have ih := fun m f fs => P_back r m f fs
    have ihs : ∀ fs', P .start [] r = some fs' → joinC (fs'.map ft) = r := fun fs' e => ih .start [] fs' (fun _ => rfl) (fun z => by cases z) e
    unfold P at h
    by_cases hc : pr c = false
    · rw [if_pos hc] at h
      cases h
    · rw [if_neg hc] at h
      cases m with
      | start =>
        have e := h1 rfl
        subst e
        by_cases h44 : c = 44
        · subst h44
          simp only [if_true] at h
          rw [P_comma ihs h]
          rfl
        · by_cases h34 : c = 34
          · subst h34
            simp at h
            rw [ih .closed [] fs (fun z => by cases z) (fun z => by cases z) h]
            rfl
          · simp [h44, h34] at h
            rw [ih .plain [c] fs (fun z => by cases z) (fun _ => plain_snoc plain_nil h44 h34) h]
            rfl
      | plain =>
        have hp := h2 rfl
        by_cases h44 : c = 44
        · subst h44
          simp only [if_true] at h
          rw [P_comma ihs h, ft_plain hp]
          rfl
        · by_cases h34 : c = 34
          · subst h34
            simp at h
          · simp [h44, h34] at h
            rw [ih .plain (f ++ [c]) fs (fun z => by cases z) (fun _ => plain_snoc hp h44 h34) h]
            show (f ++ [c]) ++ r = f ++ c :: r
            rw [List.append_assoc]
            rfl
      | closed =>
        by_cases h34 : c = 34
        · subst h34
          simp at h
          rw [ih .quote f fs (fun z => by cases z) (fun z => by cases z) h]
          show 34 :: (dbl f ++ [34]) ++ r = 34 :: dbl f ++ 34 :: r
          simp
        · simp [h34] at h
          rw [ih .closed (f ++ [c]) fs (fun z => by cases z) (fun z => by cases z) h]
          show 34 :: dbl (f ++ [c]) ++ r = 34 :: dbl f ++ c :: r
          rw [dbl_append, dbl_other h34]
          simp
      | quote =>
        by_cases h34 : c = 34
        · subst h34
          simp at h
          rw [ih .closed (f ++ [34]) fs (fun z => by cases z) (fun z => by cases z) h]
          show 34 :: dbl (f ++ [34]) ++ r = 34 :: (dbl f ++ [34]) ++ 34 :: r
          rw [dbl_append, dbl_q]
          simp
        · simp only [h34, if_false] at h
          by_cases h44 : c = 44 ∧ ft f ≠ f
          · rw [if_pos h44] at h
            have hp : plainF f = false := by
              cases q : plainF f with
              | false => rfl
              | true => exact absurd (ft_plain q) h44.2
            rw [P_comma ihs h, ft_not hp, h44.1]
            rfl
          · rw [if_neg h44] at h
            cases h

theorem P_field_plain : ∀ (g f r : T), plainF g = true → (∀ c ∈ g, pr c = true) → P .plain f (g ++ r) = P .plain (f ++ g) r
  | [], f, r, _, _ => by rw [List.nil_append, List.append_nil]
  | c :: g, f, r, h, hp => by
    have hc := hp c List.mem_cons_self
    have h' := plain_iff.mp h
    have h44 : c ≠ 44 := fun e => h'.1 (by rw [e]; exact List.mem_cons_self)
    have h34 : c ≠ 34 := fun e => h'.2 (by rw [e]; exact List.mem_cons_self)
    have hg : plainF g = true := plain_iff.mpr ⟨fun z => h'.1 (List.mem_cons_of_mem _ z), fun z => h'.2 (List.mem_cons_of_mem _ z)⟩
    show P .plain f (c :: (g ++ r)) = _
    conv => lhs; unfold P
    simp only [hc, h44, h34, if_false, Bool.true_eq_false]
    rw [P_field_plain g (f ++ [c]) r hg (fun d hd => hp d (List.mem_cons_of_mem _ hd)), List.append_assoc]
    rfl
theorem P_field_quoted : ∀ (g f r : T), (∀ c ∈ g, pr c = true) → pr 34 = true → P .closed f (dbl g ++ 34 :: r) = P .quote (f ++ g) r
  | [], f, r, _, h => by
    show P .closed f (34 :: r) = _
    conv => lhs; unfold P
    simp [h]
  | c :: g, f, r, hp, h => by
    have hc := hp c List.mem_cons_self
    have ih := fun f => P_field_quoted g f r (fun d hd => hp d (List.mem_cons_of_mem _ hd)) h
    by_cases h34 : c = 34
    · subst h34
      show P .closed f (34 :: 34 :: (dbl g ++ 34 :: r)) = _
      conv => lhs; unfold P
      simp [h]
      conv => lhs; unfold P
      simp [h]
      rw [ih, List.append_assoc]
      rfl
    · have ed : dbl (c :: g) = c :: dbl g := by
        conv => lhs; unfold dbl
        rw [if_neg h34]
      rw [ed]
      show P .closed f (c :: (dbl g ++ 34 :: r)) = _
      conv => lhs; unfold P
      simp [hc, h34]
      rw [ih, List.append_assoc]
      rfl
theorem P_field (g r : T) (hp : ∀ c ∈ g, pr c = true) : (P .start [] (ft g) = some [g]) ∧ P .start [] (ft g ++ 44 :: r) = (P .start [] r).map (g :: ·) := by
  have h34 : pr 34 = true := rfl
  have h44 : pr 44 = true := rfl
  cases h : plainF g with
  | true =>
    rw [ft_plain h]
    cases g with
    | nil =>
      constructor
      · unfold P
        simp
      · show P .start [] (44 :: r) = _
        conv => lhs; unfold P
        simp [h44]
    | cons c g =>
      have hc := hp c List.mem_cons_self
      have h' := plain_iff.mp h
      have hc44 : c ≠ 44 := fun e => h'.1 (by rw [e]; exact List.mem_cons_self)
      have hc34 : c ≠ 34 := fun e => h'.2 (by rw [e]; exact List.mem_cons_self)
      have hg : plainF g = true := plain_iff.mpr ⟨fun z => h'.1 (List.mem_cons_of_mem _ z), fun z => h'.2 (List.mem_cons_of_mem _ z)⟩
      have hpg : ∀ d ∈ g, pr d = true := fun d hd => hp d (List.mem_cons_of_mem _ hd)
      have e : ∀ l, P .start [] (c :: l) = P .plain [c] l := fun l => by
        conv => lhs; unfold P
        simp [hc, hc44, hc34]
      constructor
      · rw [e]
        have q := P_field_plain g [c] [] hg hpg
        rw [List.append_nil] at q
        rw [q]
        unfold P
        simp
      · show P .start [] (c :: (g ++ 44 :: r)) = _
        rw [e, P_field_plain g [c] _ hg hpg]
        conv => lhs; unfold P
        simp [h44]
  | false =>
    rw [ft_not h]
    have hf : ft g ≠ g := fun z => by
      rw [ft_self.mp z] at h
      cases h
    constructor
    · rw [P_open _ h34, P_field_quoted g [] [] hp h34]
      unfold P
      simp [hf]
    · show P .start [] (34 :: ((dbl g ++ [34]) ++ 44 :: r)) = _
      rw [P_open _ h34, List.append_assoc]
      show P .closed [] (dbl g ++ 34 :: (44 :: r)) = _
      rw [P_field_quoted g [] _ hp h34]
      conv => lhs; unfold P
      simp [hf, h44]
theorem P_line : ∀ (fs : List T), fs ≠ [] → (∀ f ∈ fs, ∀ c ∈ f, pr c = true) → P .start [] (joinC (fs.map ft)) = some fs
  | [], h, _ => absurd rfl h
  | [f], _, hp => (P_field f [] (hp f List.mem_cons_self)).1
  | f :: g :: r, _, hp => by
    show P .start [] (ft f ++ 44 :: joinC ((g :: r).map ft)) = _
    rw [(P_field f _ (hp f List.mem_cons_self)).2, P_line (g :: r) (by simp) (fun x hx => hp x (List.mem_cons_of_mem _ hx))]
    rfl
end K85
namespace K85
/-! ### joined texts, and how long they are -/
def joinL (sep : T) : List T → T
  | [] => []
  | [a] => a
  | a :: b :: r => a ++ (sep ++ joinL sep (b :: r))
theorem joinL_comma : ∀ ys : List T, joinL [44] ys = joinC ys
  | [] => rfl
  | [_] => rfl
  | a :: b :: r => by
    show a ++ ([44] ++ joinL [44] (b :: r)) = a ++ 44 :: joinC (b :: r)
    rw [joinL_comma (b :: r)]
    rfl
theorem joinL_nil : ∀ ys : List T, joinL [] ys = ys.flatten
  | [] => rfl
  | [a] => by simp [joinL]
  | a :: b :: r => by
    show a ++ ([] ++ joinL [] (b :: r)) = _
    rw [joinL_nil (b :: r)]
    rfl
theorem joinL_len (sep : T) : ∀ ys : List T, (ys.map List.length).sum + ys.length * sep.length ≤ (joinL sep ys).length + sep.length
  | [] => by simp
  | [a] => by simp [joinL]
  | a :: b :: r => by
    have h := joinL_len sep (b :: r)
    show _ ≤ (a ++ (sep ++ joinL sep (b :: r))).length + sep.length
    rw [List.length_append, List.length_append, List.map_cons, List.sum_cons, List.length_cons (as := b :: r), Nat.succ_mul]
    omega
theorem joinL_mem {sep a : T} : ∀ {ys : List T}, a ∈ ys → a.length ≤ (joinL sep ys).length
  | [b], h => by
    rcases List.mem_cons.mp h with z | z
    · rw [z]
      exact Nat.le_refl _
    · cases z
  | b :: c :: r, h => by
    show _ ≤ (b ++ (sep ++ joinL sep (c :: r))).length
    rw [List.length_append, List.length_append]
    rcases List.mem_cons.mp h with z | z
    · rw [z]
      omega
    · have := joinL_mem (sep := sep) z
      omega
def lineT (fs : List T) : T := joinC (fs.map ft) ++ [10]
def wr (rows : List (List T)) : T := (rows.map lineT).flatten
theorem ft_ge (f : T) : f.length ≤ (ft f).length := by
  unfold ft
  have h := dbl_len f
  split
  · exact Nat.le_refl _
  · simp only [List.length_cons, List.length_append, List.length_nil]
    omega
theorem line_len {fs : List T} : fs.length ≤ (lineT fs).length ∧ ∀ f ∈ fs, f.length ≤ (lineT fs).length := by
  have h := joinL_len [44] (fs.map ft)
  have e : (lineT fs).length = (joinL [44] (fs.map ft)).length + 1 := by
    rw [joinL_comma]
    simp [lineT]
  rw [e]
  simp only [List.length_map, List.length_cons, List.length_nil] at h
  refine ⟨by omega, fun f hf => ?_⟩
  have h2 := joinL_mem (sep := [44]) (List.mem_map_of_mem (f := ft) hf)
  have h3 := ft_ge f
  omega
theorem flat_len : ∀ (ls : List T), (∀ l ∈ ls, 1 ≤ l.length) → ls.length ≤ ls.flatten.length
  | [], _ => Nat.le_refl _
  | l :: r, h => by
    have := flat_len r (fun x hx => h x (List.mem_cons_of_mem _ hx))
    have := h l List.mem_cons_self
    simp only [List.length_cons, List.flatten_cons, List.length_append]
    omega
theorem flat_mem {l : T} : ∀ {ls : List T}, l ∈ ls → l.length ≤ ls.flatten.length
  | k :: r, h => by
    rw [List.flatten_cons, List.length_append]
    rcases List.mem_cons.mp h with z | z
    · rw [z]
      omega
    · have := flat_mem z
      omega
theorem wr_len {rows : List (List T)} : rows.length ≤ (wr rows).length ∧ ∀ fs ∈ rows, (lineT fs).length ≤ (wr rows).length := by
  refine ⟨?_, fun fs h => flat_mem (List.mem_map_of_mem (f := lineT) h)⟩
  have h := flat_len (rows.map lineT) (fun l hl => by
    obtain ⟨fs, _, e⟩ := List.mem_map.mp hl
    rw [← e]
    simp [lineT])
  rwa [List.length_map] at h
theorem sum_flat : ∀ ls : List T, (ls.map List.length).sum = ls.flatten.length
  | [] => rfl
  | l :: r => by
    rw [List.map_cons, List.sum_cons, List.flatten_cons, List.length_append, sum_flat r]
theorem dbl_flat : ∀ f : T, (f.map fun c => if c = 34 then [34, 34] else [c]).flatten = dbl f
  | [] => rfl
  | c :: r => by
    rw [List.map_cons, List.flatten_cons, dbl_flat r, dbl]
    split <;> rfl
theorem odd_none {f : T} : (f.filter fun c => decide (c = 44) || decide (c = 34)).length = 0 ↔ plainF f = true := by
  rw [List.length_eq_zero_iff, List.filter_eq_nil_iff, plain_iff]
  constructor
  · intro h
    exact ⟨fun z => h 44 z (by simp), fun z => h 34 z (by simp)⟩
  · intro h c hc
    simp
    exact ⟨fun e => h.1 (e ▸ hc), fun e => h.2 (e ▸ hc)⟩
end K85

namespace K85
/-! ### lines, and the rows of a text -/
def sp : T → List T × T
  | [] => ([], [])
  | c :: r => if c = 10 then ([] :: (sp r).1, (sp r).2) else match (sp r).1 with
    | [] => ([], c :: (sp r).2)
    | l :: ls => ((c :: l) :: ls, (sp r).2)
def glue (ini : List T) (last : T) : T := (ini.map (· ++ [10])).flatten ++ last
theorem sp_spec : ∀ t : T, glue (sp t).1 (sp t).2 = t ∧ (∀ l ∈ (sp t).1, 10 ∉ l) ∧ 10 ∉ (sp t).2
  | [] => ⟨rfl, (fun _ h => nomatch h), (fun h => nomatch h)⟩
  | c :: r => by
    obtain ⟨h1, h2, h3⟩ := sp_spec r
    unfold sp
    by_cases hc : c = 10
    · rw [if_pos hc]
      refine ⟨?_, fun l hl => ?_, h3⟩
      · show (([] ++ [10]) ++ ((sp r).1.map (· ++ [10])).flatten) ++ (sp r).2 = _
        rw [hc, List.append_assoc]
        exact congrArg (10 :: ·) h1
      · rcases List.mem_cons.mp hl with z | z
        · rw [z]
          exact fun h => nomatch h
        · exact h2 l z
    · rw [if_neg hc]
      split
      · rename_i e
        rw [e] at h1
        refine ⟨congrArg (c :: ·) h1, (fun _ h => nomatch h), fun h => ?_⟩
        rcases List.mem_cons.mp h with z | z
        · exact hc z.symm
        · exact h3 z
      · rename_i l ls e
        rw [e] at h1 h2
        refine ⟨?_, fun k hk => ?_, h3⟩
        · exact congrArg (c :: ·) h1
        · rcases List.mem_cons.mp hk with z | z
          · rw [z]
            intro h
            rcases List.mem_cons.mp h with q | q
            · exact hc q.symm
            · exact h2 l List.mem_cons_self q
          · exact h2 k (List.mem_cons_of_mem _ z)
theorem sp_plain : ∀ (l : T), 10 ∉ l → sp l = ([], l)
  | [], _ => rfl
  | c :: r, h => by
    have hc : c ≠ 10 := fun e => h (by rw [e]; exact List.mem_cons_self)
    rw [sp, if_neg hc, sp_plain r (fun z => h (List.mem_cons_of_mem _ z))]
theorem sp_line : ∀ (l r : T), 10 ∉ l → sp (l ++ 10 :: r) = (l :: (sp r).1, (sp r).2)
  | [], r, _ => by
    show sp (10 :: r) = _
    rw [sp, if_pos rfl]
  | c :: l, r, h => by
    have hc : c ≠ 10 := fun e => h (by rw [e]; exact List.mem_cons_self)
    show sp (c :: (l ++ 10 :: r)) = _
    rw [sp, if_neg hc, sp_line l r (fun z => h (List.mem_cons_of_mem _ z))]
theorem sp_glue : ∀ (ini : List T) (last : T), (∀ l ∈ ini, 10 ∉ l) → 10 ∉ last → sp (glue ini last) = (ini, last)
  | [], last, _, h => sp_plain last h
  | l :: r, last, h, h2 => by
    have e : glue (l :: r) last = l ++ 10 :: glue r last := by
      simp [glue]
    rw [e, sp_line l _ (h l List.mem_cons_self), sp_glue r last (fun x hx => h x (List.mem_cons_of_mem _ hx)) h2]
theorem glue_len : ∀ (ini : List T) (last : T), ini.length ≤ (glue ini last).length ∧ last.length ≤ (glue ini last).length ∧ ∀ l ∈ ini, l.length ≤ (glue ini last).length
  | [], last => ⟨Nat.zero_le _, Nat.le_refl _, (fun _ h => nomatch h)⟩
  | l :: r, last => by
    have e : glue (l :: r) last = l ++ 10 :: glue r last := by
      simp [glue]
    obtain ⟨h1, h2, h3⟩ := glue_len r last
    rw [e, List.length_append, List.length_cons (as := glue r last)]
    refine ⟨by rw [List.length_cons]; omega, by omega, fun k hk => ?_⟩
    rcases List.mem_cons.mp hk with z | z
    · rw [z]
      omega
    · have := h3 k z
      omega
def rdA : Nat → List (List T) → List T → Except Nat (List (List T))
  | _, acc, [] => .ok acc
  | k, acc, l :: r => match P .start [] l with
    | none => .error (k + 1)
    | some fs => rdA (k + 1) (acc ++ [fs]) r
def rd (ini : List T) (last : T) : Except Nat (List (List T)) := match rdA 0 [] ini with
  | .error e => .error e
  | .ok r => if last = [] then .ok r else .error (ini.length + 1)
def read (t : T) : Except Nat (List (List T)) := rd (sp t).1 (sp t).2
def body (fs : List T) : T := joinC (fs.map ft)
def GoodRow (fs : List T) : Prop := fs ≠ [] ∧ ∀ f ∈ fs, ∀ c ∈ f, pr c = true
theorem P_body {fs : List T} (h : GoodRow fs) : P .start [] (body fs) = some fs := P_line fs h.1 h.2
theorem body_no {fs : List T} (h : GoodRow fs) : 10 ∉ body fs := fun z => by
  have := P_bad (body fs) .start [] ⟨10, z, rfl⟩
  rw [P_body h] at this
  cases this
theorem rdA_rows : ∀ (rows : List (List T)) (k : Nat) (acc : List (List T)), (∀ fs ∈ rows, GoodRow fs) → rdA k acc (rows.map body) = .ok (acc ++ rows)
  | [], _, acc, _ => by
    rw [List.append_nil]
    rfl
  | fs :: r, k, acc, h => by
    rw [List.map_cons, rdA, P_body (h fs List.mem_cons_self)]
    show rdA (k + 1) (acc ++ [fs]) (r.map body) = _
    rw [rdA_rows r _ _ (fun x hx => h x (List.mem_cons_of_mem _ hx)), List.append_assoc]
    rfl
theorem wr_glue (rows : List (List T)) : wr rows = glue (rows.map body) [] := by
  unfold wr glue
  rw [List.append_nil, List.map_map]
  rfl
theorem read_wr {rows : List (List T)} (h : ∀ fs ∈ rows, GoodRow fs) : read (wr rows) = .ok rows := by
  unfold read
  rw [wr_glue, sp_glue _ _ (fun l hl => by
    obtain ⟨fs, hf, e⟩ := List.mem_map.mp hl
    rw [← e]
    exact body_no (h fs hf)) (fun z => by cases z)]
  unfold rd
  rw [rdA_rows rows 0 [] h]
  rfl
theorem rdA_ok : ∀ (ini : List T) (k : Nat) (acc rows : List (List T)), rdA k acc ini = .ok rows → ∃ r, rows = acc ++ r ∧ r.map body = ini
  | [], _, acc, rows, h => ⟨[], by rw [List.append_nil]; exact (Except.ok.inj h).symm, rfl⟩
  | l :: ls, k, acc, rows, h => by
    rw [rdA] at h
    cases e : P .start [] l with
    | none =>
      rw [e] at h
      cases h
    | some fs =>
      rw [e] at h
      obtain ⟨r, h1, h2⟩ := rdA_ok ls _ _ _ h
      have hb := P_back l .start [] fs (fun _ => rfl) (fun z => nomatch z) e
      refine ⟨fs :: r, by rw [h1, List.append_assoc]; rfl, ?_⟩
      rw [List.map_cons, h2]
      exact congrArg (· :: ls) hb
theorem wr_read {t : T} {rows : List (List T)} (h : read t = .ok rows) : wr rows = t := by
  unfold read rd at h
  cases e : rdA 0 [] (sp t).1 with
  | error n =>
    rw [e] at h
    cases h
  | ok r =>
    rw [e] at h
    have h' : (if (sp t).2 = [] then (Except.ok r : Except Nat (List (List T))) else .error ((sp t).1.length + 1)) = .ok rows := h
    by_cases hl : (sp t).2 = []
    · rw [if_pos hl] at h'
      obtain ⟨r2, h1, h2⟩ := rdA_ok _ _ _ _ e
      have e2 : rows = r2 := by
        rw [← Except.ok.inj h', h1]
        rfl
      rw [e2, wr_glue, h2, ← hl]
      exact (sp_spec t).1
    · rw [if_neg hl] at h'
      cases h'
theorem rdA_err : ∀ (ini : List T) (k n : Nat) (acc : List (List T)), rdA k acc ini = .error n → n ≤ k + ini.length
  | [], _, _, _, h => by cases h
  | l :: ls, k, n, acc, h => by
    rw [rdA] at h
    cases e : P .start [] l with
    | none =>
      rw [e] at h
      have := Except.error.inj h
      rw [List.length_cons]
      omega
    | some fs =>
      rw [e] at h
      have := rdA_err ls _ _ _ h
      rw [List.length_cons]
      omega
theorem read_err {t : T} {n : Nat} (h : read t = .error n) : n ≤ t.length + 1 := by
  have hg := glue_len (sp t).1 (sp t).2
  rw [(sp_spec t).1] at hg
  unfold read rd at h
  cases e : rdA 0 [] (sp t).1 with
  | error m =>
    rw [e] at h
    have := rdA_err _ _ _ _ e
    have : m = n := Except.error.inj h
    omega
  | ok r =>
    rw [e] at h
    have h' : (if (sp t).2 = [] then (Except.ok r : Except Nat (List (List T))) else .error ((sp t).1.length + 1)) = .error n := h
    by_cases hl : (sp t).2 = []
    · rw [if_pos hl] at h'
      cases h'
    · rw [if_neg hl] at h'
      have := Except.error.inj h'
      omega
/-- one step -/
theorem rdA_none {k : Nat} {acc : List (List T)} {ini : List T} {i : Nat} {l : T} (h : ini[i]? = some l) (e : P .start [] l = none) : rdA k acc (ini.drop i) = .error (k + 1) := by
  obtain ⟨hi, hl⟩ := List.getElem?_eq_some_iff.mp h
  rw [List.drop_eq_getElem_cons hi, hl, rdA, e]
theorem rdA_some {k : Nat} {acc : List (List T)} {ini : List T} {i : Nat} {l : T} {fs : List T} (h : ini[i]? = some l) (e : P .start [] l = some fs) : rdA k acc (ini.drop i) = rdA (k + 1) (acc ++ [fs]) (ini.drop (i + 1)) := by
  obtain ⟨hi, hl⟩ := List.getElem?_eq_some_iff.mp h
  rw [List.drop_eq_getElem_cons hi, hl, rdA, e]
end K85

set_option Elab.async false
set_option linter.all false
set_option maxRecDepth 100000
set_option maxHeartbeats 4000000
/-! An own exception over another one over ValueError: its __init__ says super().__init__(f'..{line}..') and keeps line. -/
namespace PySem
namespace BadX
open PySem.W PySem.Calls PyProof.Rows PySem.HandSPX
theorem int_len {a : Int} (h : a.natAbs.log2 < 1920) : (Str.ofString (toString a)).length ≤ 5000 := by
  have e := int_text_length_le (k := 1920) (by decide) h
  rw [ofString_length]
  omega
/-! ### the text of __init__ -/
def iA (p1 p2 : Pos) : Arguments := { posonlyargs := [], args := [{ arg := "self", annotation := none, pos := p1 }, { arg := "line", annotation := none, pos := p2 }], vararg := none, kwonlyargs := [], kw_defaults := [], kwarg := none, defaults := [] }
def iB (u v : Str) (k1 k2 : Nat) (q1 q2 q3 q4 q5 q6 q7 q8 q9 q10 q11 q12 q13 q14 : Pos) : List Stmt :=
  [.Expr (.Call (.Attribute (.Call (.Name "super" q1) [] [] q2) "__init__" q3) [.JoinedStr [.Constant (.str u) k1 q4, .FormattedValue (.Name "line" q5) (-1) none q6, .Constant (.str v) k2 q7] q8] [] q9) q10,
   .Assign [.Attribute (.Name "self" q11) "line" q12] (.Name "line" q13) q14]
structure IScope (sc : Scope) : Prop where
  kind : sc.kind = .function
  co : sc.isCoroutine = false
  gen : sc.isGenerator = false
  cell : ∀ x ∈ sc.names, x.2 ≠ .cell
  self : sc.names.lookup ("self" : Str) = some .local
  line : sc.names.lookup ("line" : Str) = some .local
  sup : sc.names.lookup ("super" : Str) = some .globalImplicit
  cls : sc.names.lookup ("__class__" : Str) = some .free
/-- how the text is read in its frame -/
structure IRead (sc : Scope) (u v : Str) (k1 k2 : Nat) (q1 q2 q3 q4 q5 q6 q7 q8 q9 q10 q11 q12 q13 q14 : Pos) : Prop where
  inter : ∀ (L fI cda cc : Addr), interactive (ksEnv "BadLine.__init__" sc L fI (.ref cda) cc) = false
  swap : ∀ (L fI cda cc : Addr), swapsWith (.Call (.Attribute (.Call (.Name "super" q1) [] [] q2) "__init__" q3) [.JoinedStr [.Constant (.str u) k1 q4, .FormattedValue (.Name "line" q5) (-1) none q6, .Constant (.str v) k2 q7] q8] [] q9) none q10.line (ksEnv "BadLine.__init__" sc L fI (.ref cda) cc) = pure false
  meth : ∀ (L fI cda cc : Addr), eval (.Call (.Attribute (.Call (.Name "super" q1) [] [] q2) "__init__" q3) [.JoinedStr [.Constant (.str u) k1 q4, .FormattedValue (.Name "line" q5) (-1) none q6, .Constant (.str v) k2 q7] q8] [] q9) (ksEnv "BadLine.__init__" sc L fI (.ref cda) cc) = (do
      let ov ← attributeBase (.Call (.Name "super" q1) [] [] q2) "__init__" (ksEnv "BadLine.__init__" sc L fI (.ref cda) cc) (eval (.Call (.Name "super" q1) [] [] q2) (ksEnv "BadLine.__init__" sc L fI (.ref cda) cc))
      standAt q3.atName
      let (f, first) ← holding [ov] (getMethod ov "__init__" (L2.plainOf (.Call (.Name "super" q1) [] [] q2) (ksEnv "BadLine.__init__" sc L fI (.ref cda) cc)))
      callWith q9 f first (backTo q9 (starEach [.JoinedStr [.Constant (.str u) k1 q4, .FormattedValue (.Name "line" q5) (-1) none q6, .Constant (.str v) k2 q7] q8] (ksEnv "BadLine.__init__" sc L fI (.ref cda) cc))) [])
  star : ∀ (L fI cda cc : Addr), starEach [.JoinedStr [.Constant (.str u) k1 q4, .FormattedValue (.Name "line" q5) (-1) none q6, .Constant (.str v) k2 q7] q8] (ksEnv "BadLine.__init__" sc L fI (.ref cda) cc) =
    (false, eval (.JoinedStr [.Constant (.str u) k1 q4, .FormattedValue (.Name "line" q5) (-1) none q6, .Constant (.str v) k2 q7] q8) (ksEnv "BadLine.__init__" sc L fI (.ref cda) cc)) :: starEach [] (ksEnv "BadLine.__init__" sc L fI (.ref cda) cc)
  swap2 : ∀ (L fI cda cc : Addr), swapsWith (.Name "line" q13) (some (.Attribute (.Name "self" q11) "line" q12)) q14.line (ksEnv "BadLine.__init__" sc L fI (.ref cda) cc) = pure false
/-- what the written part says of the class at C, its __init__ at fI, that one's code object cda and the cell of __class__ cc -/
structure BadTxt (P : Program) (K : Frag) (mg : Str → Option Value) (C fI cda cc : Addr) : Prop where
  cls : ∃ nm q N bs bm sn sub ab col dd k0 k1 k2 k3 k5, K.lookup C = some (excClassObj nm q C N bs bm true sn sub ab col dd k0 k1 k2 k3 k5 "ValueError.__new__") ∧ refsVE bm = true
  sa : findIn K (.ref C) "__setattr__" = some (some (.builtin "object.__setattr__"))
  noN : findIn K (.ref C) "line" = some none
  iC : findIn K (.ref C) "__init__" = some (some (.ref fI))
  tC : typeIn K (.ref fI) = some (.type "function")
  kC : keepIn K (.ref C) = true
  exC : subIn K (.ref C) (.type "BaseException") = some true
  tyC : typeIn K (.ref C) = some (.type "type")
  subV : subIn K (.ref C) (.type "ValueError") = some true
  subC : mroIn K C (.ref C) = some true
  along : ks_superIn K C C "__init__" = some (some (.builtin "ValueError.__init__"))
  opq : nsIn K cStatics "thirdparty.any" = some none
  gS : mg "super" = none
  cell : ∃ cl cld csl, K.lookup cc = some ⟨cl, cld, .cell (some (.ref C)), csl⟩
  code : ∃ ccl cdd vs ccs file tf, K.lookup cda = some ⟨ccl, cdd, .fields vs, ccs⟩ ∧ vs[2]? = some (.str file tf) ∧ ((P.main.file : Str) == file) = true
  top : (P.main.scope.names.lookup ("super" : Str)).isSome = false
  fn : ∃ (oc : Value) (od : Option Addr) (doc pm : Value) (an : Option Addr) (ct : Value) (osl : Array (Option Value)) (p1 p2 : Pos) (u v : Str) (k1 k2 : Nat) (q1 q2 q3 q4 q5 q6 q7 q8 q9 q10 q11 q12 q13 q14 : Pos) (sc : Scope),
    K.lookup fI = some ⟨oc, od, .func (ksFn "__init__" "BadLine.__init__" (iA p1 p2) (iB u v k1 k2 q1 q2 q3 q4 q5 q6 q7 q8 q9 q10 q11 q12 q13 q14) sc .none .none doc pm an (.ref cda) ct cc), osl⟩ ∧ codeIn K (.ref cda) "BadLine.__init__" = true ∧ IScope sc ∧ u.length ≤ 1000 ∧ v.length ≤ 1000 ∧ IRead sc u v k1 k2 q1 q2 q3 q4 q5 q6 q7 q8 q9 q10 q11 q12 q13 q14
theorem one_size (v : Value) : [v].length ≤ sizeLine := by
  rw [sizeLine_eq]
  exact (by decide : 1 ≤ 16777216)
/-- what __init__ leaves of a fresh exception at x -/
structure InitEnd (h h' : Heap) (x C dx t1 : Addr) (v : Value) : Prop where
  keep : ∀ b o, b ≠ x → h.get? b = some o → h'.get? b = some o
  obj : h'.get? x = some { cls := .ref C, dict := some dx, data := .fields #[.ref t1, .none, .none, .none, .bool false, .none] }
  dbig : h.objs.size ≤ dx
  dne : dx ≠ x
  ns : h'.Ns1 dx (fun y => if y = "line" then some v else none)
/-- a made one -/
structure OwnMade (h h' : Heap) (e C d : Addr) (v : Value) : Prop where
  keep : ∀ b o, h.get? b = some o → h'.get? b = some o
  new : h.objs.size ≤ e
  obj : ∃ oe vs, h'.get? e = some oe ∧ oe.cls = .ref C ∧ oe.dict = some d ∧ oe.data = .fields vs ∧ vs[1]? = some .none
  dbig : h.objs.size ≤ d
  dne : d ≠ e
  ns : h'.Ns1 d (fun y => if y = "line" then some v else none)
section
variable {prog : Program} {w : World} {A : Around} {E : Value → Shared → Prop} {h : Heap} {g : Array GenState} {d : Drawn} {t : Nat} {os : OsState}
variable {nm q : Str} {C N : Addr} {bs bm : List Value} {hdct : Bool} {sn : List Str} {sub : List Value} {ab : Bool} {col : Option Bool} {dd : Option Addr} {k0 k1 k2 k3 k5 : Option Value}
theorem call_mwV {u e t0 : Addr} {rest : List Value} {Q : Value → Shared → Prop}
    (hC : h.get? C = some (excClassObj nm q C N bs bm hdct sn sub ab col dd k0 k1 k2 k3 k5 "ValueError.__new__")) (he : h.get? e = some (excO C t0)) (hu : h.get? u = some (kxs_mw "ValueError.__init__" e)) (hrest : rest.length ≤ sizeLine)
    (hq : ∀ h' t1, (∀ b o, b ≠ e → h.get? b = some o → h'.get? b = some o) → h'.get? e = some (excO C t1) → Q .none ⟨h', g, d, t, os⟩) :
    wpAny (model prog w) A (call (.ref u) rest) Q E ⟨h, g, d, t, os⟩ := by
  refine wpAny_call (codeAny_of_tree ?_)
  show wpAny _ A.in1 (callAny (.ref u) ⟨rest, []⟩) _ _ _
  simp only [callAny]
  refine wpAny_bind (wpAny_load hu ?_)
  simp only [kxs_mw, show (Value.type "method-wrapper" == Value.type "method" || Value.type "method-wrapper" == Value.type "builtin_function_or_method" || Value.type "method-wrapper" == Value.type "method-wrapper") = true by decide, if_true]
  refine KFB.if_so (by decide) ?_
  refine wpAny_bind (check_bound_init F.excBase_ValueError.toExcCallFacts hC he rfl ?_)
  refine wpAny_bind (wpAny_pure (wpAny_pure ?_))
  refine ⟨plainId_quiet F.excBase_ValueError.init.plain _, codeAny_builtin F.excBase_ValueError.initEntry ?_⟩
  rw [Around.under_plainId F.excBase_ValueError.init.plain _]
  wp_walk
  refine hq _ h.objs.size (fun b o hb ho => ?_) ?_
  · rw [Heap.get?_update_other _ _ (Ne.symm hb)]
    exact Heap.get?_push_of_some _ ho
  · rw [Heap.get?_update_self _ (Heap.get?_push_of_some _ he) rfl]
    rfl
end
section
variable {prog : Program} {w : World} {A : Around} {E : Value → Shared → Prop} {R : Result → Shared → Prop} {s : Shared} {K : Frag} {mg mb : Str → Option Value} {C fI cda cc : Addr}
theorem ldK {M : Model} {h₀ : Heap} {g₀ : Array GenState} {d₀ : Drawn} {t₀ : Nat} {o₀ : OsState} {env : Env} {m : Str → Option Value} {x : Str} {pos : Pos} {v : Value} {Q : Value → Shared → Prop} (hn : h₀.Ns env.locals m) (hv : m x = some v) (h : Q v ⟨h₀, g₀, d₀, t₀, o₀⟩)
    (hk : env.scope.kind = .function) (hl : env.kindOf x = some .local) (hd : (x == ("__debug__" : Str)) = false := by decide) : wpAny M A (eval (.Name x pos) env) Q E ⟨h₀, g₀, d₀, t₀, o₀⟩ := wpAny_Name (wpAny_loadName_local hk hl (s := ⟨h₀, g₀, d₀, t₀, o₀⟩) hn hv h) hd
theorem callWith1 {M : Model} {pos : Pos} {env : Env} {e : Expr} {rest : List Expr} {x u : Addr} {i : String} {Q : Value → Shared → Prop}
    (h : wpAny M A (spliced (backTo pos (starEach (e :: rest) env))) (fun vs s₁ => KxsAt i u x s₁.heap ∧ wpAny M A (call (.ref u) vs) Q E s₁) E s)
    (he : starEach (e :: rest) env = (false, eval e env) :: starEach rest env) (hplain : (backTo pos (starEach rest env)).any (·.1) = false) :
    wpAny M A (callWith pos (.ref u) [] (backTo pos (starEach (e :: rest) env)) []) Q E s := by
  rw [he] at h ⊢
  refine kxs_callWith (i := i) (x := x) (by show (false || (backTo pos (starEach rest env)).any (·.1)) = false; rw [hplain]; rfl) ?_
  exact evalArgs_plain h

theorem bad_init (T : BadTxt prog K mg C fI cda cc) {x t0 : Addr} {i : Int} {ti : Tok} (X : K.In s.heap) (hg : s.heap.Ns mainGlobals mg) (hb : s.heap.Ns builtinsNs mb) (hbb : ∀ x : Str, x ≠ "__name__" → mb x = bootBuiltins x)
    (hlim : s.heap.NoLimit) (hx : s.heap.get? x = some (excO C t0)) (hnx : K.lookup x = none) (hroom : A.depth < recursionLimit) (hi : i.natAbs.log2 < 1920)
    (hq : ∀ h' tk dx t1, InitEnd s.heap h' x C dx t1 (.int i ti) → R (.ok (.ret .none)) { s with heap := h', toks := tk }) :
    codeAny (model prog w) A (.call (.ref fI) ⟨[.ref x, .int i ti], []⟩) R s := by
  obtain ⟨oc, od, doc, pm, an, ct, osl, p1, p2, u, v, k1, k2, q1, q2, q3, q4, q5, q6, q7, q8, q9, q10, q11, q12, q13, q14, sc, ho, hcd, S, hu, hv, RD⟩ := T.fn
  obtain ⟨nm, q, N, bs, bm, sn, sub, ab, col, dd, c0, c1, c2, c3, c5, hC, hbm⟩ := T.cls
  obtain ⟨cl, cld, csl, hcc⟩ := T.cell
  obtain ⟨ccl, cdd, vs, ccs, file, tf, hcode, hvs, hfile⟩ := T.code
  have hcl : clsIn K C = some { name := nm, bases := bs, mro := .ref C :: bm, ns := N, qualname := q, hasDict := true, slotNames := sn, subclasses := sub, abstract := ab, collection := col, hasDel := false } := by unfold clsIn; rw [hC] <;> rfl
  have hxC : x ≠ C := fun e => by rw [e, hC] at hnx; cases hnx
  refine ks_codeAny_call_defAt (fd := ksFn "__init__" "BadLine.__init__" (iA p1 p2) (iB u v k1 k2 q1 q2 q3 q4 q5 q6 q7 q8 q9 q10 q11 q12 q13 q14) sc .none .none doc pm an (.ref cda) ct cc) (body := iB u v k1 k2 q1 q2 q3 q4 q5 q6 q7 q8 q9 q10 q11 q12 q13 q14)
    (binds := [("self", .ref x), ("line", .int i ti)]) hroom (X _ _ ho) rfl hlim (codeRec_of X hcd) rfl (BindsTo.of_eq (by first | rfl | with_unfolding_all rfl)) S.cell (fun y hy => ?_) (fun h₁ hns k₁ => ?_) S.co S.gen S.kind
  · rcases List.mem_cons.mp hy with rfl | hy
    · exact S.self
    · rcases List.mem_cons.mp hy with rfl | hy
      · exact S.line
      · cases hy
  have X₁ : K.In h₁ := X.keeps k₁
  have hx₁ := k₁ _ _ hx
  obtain ⟨hh, gg, dr, tk, os⟩ := s
  have hself : ([("self", Value.ref x), ("line", Value.int i ti)] : List (Str × Value)).reverse.lookup ("self" : Str) = some (.ref x) := by first | rfl | decide +kernel | kernel_rfl
  have hline : ([("self", Value.ref x), ("line", Value.int i ti)] : List (Str × Value)).reverse.lookup ("line" : Str) = some (.int i ti) := by first | rfl | decide +kernel | kernel_rfl
  have hD : ∃ oD, h₁.get? C = some oD ∧ ∃ cd, oD.data = .cls cd := ⟨_, X₁ _ _ hC, _, rfl⟩
  obtain ⟨oD, hD1, cdD, hD2⟩ := hD
  -- super().__init__(..)
  have hL : hh.objs.size < h₁.objs.size := hns.lt
  refine ks_wpAt_execs_cons (ks_wpAt_Expr_any ?_ (RD.inter _ _ _ _) (RD.swap _ _ _ _))
  refine ks_wpAt_MethodCall (env := ksEnv "BadLine.__init__" sc hh.objs.size fI (.ref cda) cc) ?_ (RD.meth _ _ _ _)
  refine ks_wpAt_super_base (env := ksEnv "BadLine.__init__" sc hh.objs.size fI (.ref cda) cc) S.sup S.cls (by decide) rfl (X₁ _ _ ho) rfl rfl rfl (X₁ _ _ hcode) rfl hvs hfile T.top ?_
  refine ks_loadName_global S.kind S.sup (loadGlobal_builtin (env := ksEnv "BadLine.__init__" sc hh.objs.size fI (.ref cda) cc) (hg.keeps k₁) T.gS (hb.keeps k₁) ((hbb _ (by decide +kernel)).trans (by decide +kernel)) ⟨rfl, ?_⟩)
  refine wpAny_loadName_free S.kind S.cls rfl ⟨_, X₁ _ _ hcc, rfl⟩ ?_
  refine wpAny_loadName_local S.kind S.self hns hself ?_
  refine ks_wpAny_isType_cls hD1 hD2 ⟨rfl, ?_⟩
  refine ks_wpAny_call_super hD1 hD2 hx₁ rfl (fun c e => by cases e) (looks_mroIn X₁ T.subC) (fun h₂ hso k₂ => ?_)
  have X₂ : K.In h₂ := X₁.keeps k₂
  have hx₂ := k₂ _ _ hx₁
  have I₂ : InstAt h₂ x (excO C t0) C none := ⟨hx₂, rfl, rfl, trivial⟩
  have halong : alongIn K "__init__" ((List.dropWhile (· != .ref C) (.ref C :: bm)).drop 1) = some (some (.builtin "ValueError.__init__")) := by
    have z := T.along
    unfold ks_superIn at z
    rw [hcl] at z
    exact z
  refine kxs_getMethod kxs_ValueError hso (looks_opaque X₂ T.opq) (l₀ := .ref C :: bm) (fun A Q E s k q => wpAny_bind ((looks_clsIn X₂ hcl) A _ E s k (wpAny_pure q))) rfl X₂ halong (I₂.type.andThen (looks_subIn X₂ T.subV)) hxC (by decide) ?_
  -- the text of the error
  have hmw : (h₂.push (kxs_mw "ValueError.__init__" x)).get? h₂.objs.size = some (kxs_mw "ValueError.__init__" x) := Heap.get?_push_at rfl rfl
  have k₃ : ∀ b o, h₂.get? b = some o → (h₂.push (kxs_mw "ValueError.__init__" x)).get? b = some o := fun b o e => Heap.get?_push_of_some _ e
  have hns₃ : (h₂.push (kxs_mw "ValueError.__init__" x)).Ns hh.objs.size (fun y => ([("self", Value.ref x), ("line", Value.int i ti)] : List (Str × Value)).reverse.lookup y) := (hns.keeps k₂).keeps k₃
  have he₃ := RD.star hh.objs.size fI cda cc
  refine callWith1 (i := "ValueError.__init__") (x := x) ?_ he₃ rfl
  rw [he₃]
  show wpAny _ _ (spliced ((false, eval _ _) :: backTo q9 (starEach [] _))) _ _ _
  refine Calls.spliced_cons (wpAny_JoinedStr (pos := q8) ?_)
  have e0 : ∀ (a b c : Expr) (env : Env), evalEach [a, b, c] env = [eval a env, eval b env, eval c env] := fun a b c env => by first | rfl | simp [evalEach]
  rw [e0]
  have hz : ∀ n : Nat, n ≤ 10000 → n ≤ sizeLine := fun n hn => Nat.le_trans hn (by rw [sizeLine_eq]; decide)
  have hlen : (Str.ofString (toString i)).length ≤ 5000 := int_len hi
  refine Calls.Constant_str ⟨u, _, rfl, hz _ (by rw [strLen_append]; show 0 + u.length ≤ _; omega), ?_⟩
  refine wpAny_FormattedValue_plain (ldK hns₃ hline ?_ S.kind S.line)
  refine wpAny_formatField_int hi ⟨_, _, rfl, hz _ (by rw [strLen_append, strLen_append]; show 0 + u.length + _ ≤ _; omega), ?_⟩
  refine Calls.Constant_str ⟨v, _, rfl, hz _ (by rw [strLen_append, strLen_append, strLen_append]; show 0 + u.length + _ + v.length ≤ _; omega), ?_⟩
  refine ⟨hz _ (by rw [strLen_append, strLen_append, strLen_append]; show 0 + u.length + _ + v.length ≤ _; omega), ?_⟩
  refine Calls.spliced_nil ?_
  refine ⟨hmw, ?_⟩
  refine call_mwV (X₂.keeps k₃ _ _ hC) (k₃ _ _ hx₂) hmw (one_size _) (fun h₄ t1 k₄ hx₄ => ?_)
  have X₃ : K.In (h₂.push (kxs_mw "ValueError.__init__" x)) := X₂.keeps k₃
  have X₄ : K.In h₄ := fun b o e => k₄ b o (fun z => by rw [z] at e; exact absurd (e.symm.trans hnx) (by simp)) (X₃ b o e)
  have hxL : hh.objs.size ≠ x := Nat.ne_of_gt (Heap.lt_size hx)
  have hns₄ : h₄.Ns hh.objs.size (fun y => ([("self", Value.ref x), ("line", Value.int i ti)] : List (Str × Value)).reverse.lookup y) := by
    obtain ⟨oL, es, ep, e, r⟩ := hns₃
    exact ⟨oL, es, ep, k₄ _ _ hxL e, r⟩
  have z₂ : h₁.objs.size < h₂.objs.size := Heap.lt_size hso
  have z₃ : h₂.objs.size < (h₂.push (kxs_mw "ValueError.__init__" x)).objs.size := Heap.lt_size hmw
  -- self.line = line
  show _root_.PySem.wpAt _ _ _ (execs _ _) _ _ _
  refine ks_wpAt_execs_cons (ks_wpAt_Assign_Attr ?_ (RD.swap2 hh.objs.size fI cda cc))
  refine wpAt_of_wpAny ?_
  refine ldK (env := ksEnv "BadLine.__init__" sc hh.objs.size fI (.ref cda) cc) (x := "line") (m := fun y => ([("self", Value.ref x), ("line", Value.int i ti)] : List (Str × Value)).reverse.lookup y) hns₄ hline ?_ S.kind S.line
  refine ldK (env := ksEnv "BadLine.__init__" sc hh.objs.size fI (.ref cda) cc) (x := "self") (m := fun y => ([("self", Value.ref x), ("line", Value.int i ti)] : List (Str × Value)).reverse.lookup y) hns₄ hself ?_ S.kind S.self
  refine set_plain X₄ (ox := excO C t1) (od := none) ⟨hx₄, rfl, rfl, trivial⟩ T.sa ?_
  refine exc_osa X₄ hx₄ hcl (show refsVE (.ref C :: bm) = true from hbm) rfl T.noN (fun h₅ tk₅ dx k₅ dn dne hx₅ hn₅ => ?_)
  show _root_.PySem.wpAt _ _ _ (execs _ _) _ _ _
  refine wpAt_of_wpAny (wpAny_execs_nil (hq h₅ tk₅ dx t1 ⟨fun b o hb e => k₅ b o hb (k₄ b o hb (k₃ b o (k₂ b o (k₁ b o e)))), hx₅, ?_, dne, hn₅⟩))
  have z₄ : h₂.objs.size < h₄.objs.size := Heap.lt_size (k₄ _ _ (Nat.ne_of_gt (Heap.lt_size hx₂)) hmw)
  have dn' : h₄.objs.size ≤ dx := dn
  show hh.objs.size ≤ dx
  omega
theorem bad_made (T : BadTxt prog K mg C fI cda cc) {i : Int} {ti : Tok} (X : K.In s.heap) (hg : s.heap.Ns mainGlobals mg) (hb : s.heap.Ns builtinsNs mb) (hbb : ∀ x : Str, x ≠ "__name__" → mb x = bootBuiltins x)
    (hlim : s.heap.NoLimit) (hroom : A.depth + 1 < recursionLimit) (hi : i.natAbs.log2 < 1920)
    (hq : ∀ h' tk e d, OwnMade s.heap h' e C d (.int i ti) → R (.ok (.ret (.ref e))) { s with heap := h', toks := tk }) :
    codeAny (model prog w) A (.call (.ref C) ⟨[.int i ti], []⟩) R s := by
  obtain ⟨nm, q, N, bs, bm, sn, sub, ab, col, dd, k0, k1, k2, k3, k5, hC, hbm⟩ := T.cls
  obtain ⟨hp, g, dr, tk, os⟩ := s
  have k : ∀ b o, hp.get? b = some o → ((hp.push (kdv_tup [.int i ti])).push (excO C hp.objs.size)).get? b = some o := fun b o e => Heap.get?_push_of_some _ (Heap.get?_push_of_some _ e)
  have hget : ((hp.push (kdv_tup [.int i ti])).push (excO C hp.objs.size)).get? (hp.objs.size + 1) = some (excO C hp.objs.size) := by heap_get
  have hnx : K.lookup (hp.objs.size + 1) = none := by
    cases e : K.lookup (hp.objs.size + 1) with
    | none => rfl
    | some o =>
      have z : hp.get? (hp.objs.size + 1) = some o := X _ _ e
      exact absurd (Nat.lt_of_succ_lt (Heap.lt_size z)) (Nat.lt_irrefl _)
  refine call_own F.excBase_ValueError (fun X => refsVE_contains X bm hbm) (X _ _ hC) (looks_findIn X T.iC) (fun self => bind_fn X self T.tC) (one_size _) ?_
  refine bad_init (s := ⟨(hp.push (kdv_tup [.int i ti])).push (excO C hp.objs.size), g, dr, tk, os⟩) T (X.keeps k) (hg.keeps k) (hb.keeps k) hbb (hlim.keeps k) hget hnx ?_ hi fun h' tk' dx t1 ⟨k', hx, dn, dne, hns⟩ => ?_
  · show A.depth + 1 < recursionLimit
    exact hroom
  · have old : ∀ b o, hp.get? b = some o → h'.get? b = some o := fun b o e => k' b o (Nat.ne_of_lt (Nat.lt_succ_of_lt (Heap.lt_size e))) (k b o e)
    have z : hp.objs.size + 1 + 1 ≤ dx := by
      first
        | (simpa only [Heap.size_push] using dn)
        | exact dn
        | (have q := dn; rw [Heap.size_push, Heap.size_push] at q; exact q)
    exact ⟨rfl, hq h' tk' (hp.objs.size + 1) dx ⟨old, Nat.le_succ _, ⟨_, _, hx, rfl, rfl, rfl, rfl⟩, Nat.le_trans (Nat.le_trans (Nat.le_succ _) (Nat.le_succ _)) z, dne, hns⟩⟩
end
end BadX
end PySem
namespace L2
open PySem PySem.Spec PyProof.Rows
theorem relO_bad {v : V} {v' : Value} (r : RelV v v') (f : Str) : RelO (List.lookup f [(("line" : Str), v)]) (if f = "line" then some v' else none) := by
  by_cases hw : f = "line"
  · subst hw
    rw [if_pos rfl]
    have q : List.lookup ("line" : Str) [(("line" : Str), v)] = some v := by simp [List.lookup]
    rw [q]
    exact r
  · rw [if_neg hw]
    have qw : (f == ("line" : Str)) = false := by simpa using hw
    have q2 : List.lookup f [(("line" : Str), v)] = none := by simp [List.lookup, qw]
    rw [q2]
    trivial
section
variable {X : Cx} {C fI cda cc : Addr}
/-- BadLine(e) -/
def tMkBad (C : Addr) (ta : TA) : St → Hp → XK → Prop := fun σ H Q => ta σ H fun vs H1 => ∃ i : Int, vs = [.int i] ∧ i.natAbs.log2 < 1920 ∧ ∀ d, H1 d = none → Q (.ref C) (some d) (upd H1 d (.xd [(("line" : Str), .int i)]))
theorem pmk_bad {a : Expr} {ta : TA} {p pos : Pos} {k : Nat} (T : PySem.BadX.BadTxt X.prog X.K X.mg C fI cda cc) (gC : X.mg "BadLine" = some (.ref C)) (hr : Room k X.A) (ha : PA X [a] ta) (hg : Gl X "BadLine" := by rfl)
    (he : starEach (a :: []) X.env = (false, eval a X.env) :: starEach [] X.env := by rfl) (hpl : (backTo pos (starEach [] X.env)).any (·.1) = false := by rfl) :
    PMk X (.Call (.Name "BadLine" p) [a] [] pos) (tMkBad C ta) := by
  intro pins s σ H Q I h
  refine wpAny_Call_Name_kw (ld_glob I hg gC ?_)
  refine PySem.W.callWith_K (h₀ := X.base) I.ok.mod.kin T.kC (thn (ha.run pos pins s σ H _ I h) fun us s1 hh => ?_) he hpl
  obtain ⟨vs, H1, I1, r1, i, ev, hi, q1⟩ := hh
  subst ev
  refine ⟨I1.kIn, ?_⟩
  cases r1 with
  | cons rv rn =>
    rename_i v' us'
    cases rn
    obtain ⟨ti, rfl⟩ := rv
    show wpAny _ _ (call (.ref C) [.int i ti]) _ _ _
    have hlim := I1.nolimit
    have hg1 := I1.mod.glob.keeps I1.bk
    obtain ⟨mb, hb1, hb2⟩ := I1.mod.blt
    have hb3 := hb1.keeps I1.bk
    obtain ⟨hp, g, dr, tk, os⟩ := s1
    refine wpAny_call (PySem.BadX.bad_made T I1.kIn hg1 hb3 hb2 hlim (by have := hr.dp; omega) hi fun h' tk' e d M => ?_)
    show MkP X pins σ Q (.ref e) ⟨h', g, dr, tk', os⟩
    obtain ⟨oe, fv, hoe, hc, hd, hdat, h1⟩ := M.obj
    have hns := M.ns
    obtain ⟨G', g1, g2⟩ := restrict h' fun b => decide (b ≠ e)
    have gk : ∀ b, b ≠ e → G'.get? b = h'.get? b := fun b hb => g1 b (decide_eq_true hb)
    have ge : G'.get? e = none := g2 e (by simp)
    have old : ∀ b o, hp.get? b = some o → G'.get? b = some o := fun b o q => (gk b (Nat.ne_of_lt (Nat.lt_of_lt_of_le (Heap.lt_size q) M.new))).trans (M.keep b o q)
    have ob : ObjOk X.prog X.w (upd H1 d (.xd [(("line" : Str), .int i)])) G' d (.xd [(("line" : Str), .int i)]) :=
      ⟨_, hns.at (fun o q => (gk d M.dne).trans q), fun f => relO_bad (v := .int i) ⟨ti, rfl⟩ f⟩
    have J : Inv X pins σ (upd H1 d (.xd [(("line" : Str), .int i)])) ⟨G', g, dr, tk', os⟩ := I1.laid (t' := tk') old M.dbig ob
    refine ⟨e, oe, fv, ⟨G', g, dr, tk', os⟩, _, .ref C, some d, rfl, J, fun b o q => ?_, ge, hoe, ⟨hc, hd⟩, hdat, h1, ?_, rfl, I1.bare, raises_own T.exC T.tyC, q1 d (I1.hok.fresh M.dbig)⟩
    · by_cases hb : b = e
      · have q' : G'.get? b = some o := q
        rw [hb, ge] at q'; cases q'
      · exact (gk b hb).symm.trans q
    · rw [upd_ne (Ne.symm M.dne)]
      exact I1.hok.fresh M.new
/-- raise BadLine(e) -/
def tRaiseBad (C : Addr) (W : WX) (ta : TA) : TS := fun _ σ H => tMkBad C ta σ H fun cls d H' => W cls d σ H'
theorem ps_raiseBad {a : Expr} {ta : TA} {W : WX} {p pos pos2 : Pos} {k : Nat} (hc : X.calm = true) (T : PySem.BadX.BadTxt X.prog X.K X.mg C fI cda cc) (gC : X.mg "BadLine" = some (.ref C)) (hr : Room k X.A) (tk : Takes X W) (ha : PA X [a] ta) (hg : Gl X "BadLine" := by rfl)
    (he : starEach (a :: []) X.env = (false, eval a X.env) :: starEach [] X.env := by rfl) (hpl : (backTo pos (starEach [] X.env)).any (·.1) = false := by rfl) :
    PS X (.Raise (some (.Call (.Name "BadLine" p) [a] [] pos)) none pos2) (tRaiseBad C W ta) := ps_raise hc tk (pmk_bad T gC hr ha hg he hpl)
end
end L2

set_option Elab.async false
set_option linter.all false
set_option maxRecDepth 100000
set_option maxHeartbeats 4000000
/-! isinstance(e, T), e.line: e the own error that the suite holds -/
namespace L2
open PySem PySem.Spec PyProof.Rows
structure BadIs (K : PySem.W.Frag) (C PE : Addr) : Prop where
  ga : PySem.W.findIn K (.ref C) "__getattribute__" = some (some (.builtin "BaseException.__getattribute__"))
  gg : PySem.W.findIn K (.ref C) "__getattr__" = some none
  exC : PySem.W.subIn K (.ref C) (.type "BaseException") = some true
  hd : PySem.W.hasDictIn K C = true
  noN : PySem.W.findIn K (.ref C) "line" = some none
  ha : PySem.W.findIn K (.ref C) "__class__" = some (some (.builtin "object.__class__"))
  hn : PySem.W.specialIn K (.builtin "object.__class__") "__get__" = some (some (.builtin "getset_descriptor.__get__"))
  ht : PySem.W.takesIn K (.builtin "object.__class__") = some true
  hm : PySem.W.mroIn K C (.type "object") = some true
  kP : PySem.W.kitOne K (.ref C) (.ref PE) = some true
  kV : PySem.W.kitOne K (.ref C) (.type "ValueError") = some true
/-- isinstance(e, c), e the own error -/
def rIsOwnBad (K : PySem.W.Frag) (C a : Addr) (cls : Value) (d : Option Addr) : List V → Hp → VK → Prop := fun xs H Q => ∃ (c : V) (cv : Value) (b : Bool) (dd : Addr) (fs : List (Str × V)),
  xs = [.ref a, c] ∧ cls = .ref C ∧ d = some dd ∧ H dd = some (.xd fs) ∧ (∀ u, RelV c u → u = cv) ∧ PySem.W.kitOne K (.ref C) cv = some b ∧ Q (.bl b) H
section
variable {X : Cx} {a C PA_ : Addr} {oe : Obj} {pn : List (Addr × Obj)} {cls : Value} {d : Option Addr}
theorem call_isOwnBad (B : BadIs X.K C PA_) (hz : Zc cls d oe) (hf : ∃ vs, oe.data = .fields vs) : CallR (X.suite a ((a, oe) :: pn)) (.builtin "isinstance") (rIsOwnBad X.K C a cls d) := by
  intro pins s σ H xs us Q I r h
  obtain ⟨c, cv, b, dd, fs, rfl, rfl, rfl, hdd, hcv, e, q⟩ := h
  cases r with
  | cons rx rr =>
    cases rr with
    | cons rt rr =>
      cases rr
      cases rx
      have ec := hcv _ rt
      subst ec
      obtain ⟨hget, _⟩ := I.pin (a, oe) (List.mem_append.mpr (.inl List.mem_cons_self))
      obtain ⟨vs, hv⟩ := hf
      have hx : ObjOk X.prog X.w H s.heap dd (.xd fs) := I.hok dd _ hdd
      obtain ⟨mA, hns, hr⟩ := hx
      obtain ⟨od, ho, hl⟩ := lookIn_ns hns
      have J : PySem.W.InstAt s.heap a oe C (some od) := ⟨hget, hz.1, by unfold PySem.W.notCls; rw [hv] <;> rfl, by rw [hz.2]; exact ho⟩
      have hcl : (PySem.W.clsIn X.K C).isSome = true := by
        obtain ⟨cd, hc, _⟩ := PySem.W.any_some B.hd
        rw [hc]
        rfl
      exact PySem.W.kia_one (PySem.W.kitx_exc hcl B.ga B.gg B.exC B.ha B.hn B.ht B.hm) I.kIn J e (fun z => nomatch z) fun tk => ⟨.bl b, H, I.kept (t' := tk) fun _ _ z => z, rfl, q⟩
/-- e.line -/
def tByBad (C : Addr) (a : Addr) (cls : Value) (d : Option Addr) (te : TE) : TE := fun σ H Q => te σ H fun x H1 => x = .ref a ∧ cls = .ref C ∧ ∃ (dd : Addr) (v : V), d = some dd ∧ H1 dd = some (.xd [(("line" : Str), v)]) ∧ Q v H1
theorem pe_byBad {e : Expr} {te : TE} {pos : Pos} (B : BadIs X.K C PA_) (hz : Zc cls d oe) (hf : ∃ vs, oe.data = .fields vs) (he : PE (X.suite a ((a, oe) :: pn)) e te)
    (hb : attributeBase e "line" X.env (eval e X.env) = eval e X.env := by rfl) :
    PE (X.suite a ((a, oe) :: pn)) (.Attribute e "line" pos) (tByBad C a cls d te) := by
  refine ⟨fun pins s σ H Q I h => ?_⟩
  refine attr_of hb (thn (he.run pins s σ H _ I h) fun u s1 hh => ?_)
  obtain ⟨x, H1, I1, rx, ex, ec, dd, v, ed, ea, q⟩ := hh
  subst ex
  obtain rfl : u = Value.ref a := rx
  subst ec
  subst ed
  obtain ⟨ha, _⟩ := I1.pin (a, oe) (List.mem_append_left _ List.mem_cons_self)
  obtain ⟨vs, hd⟩ := hf
  have hx : ObjOk X.prog X.w H1 s1.heap dd (.xd [(("line" : Str), v)]) := I1.hok dd _ ea
  obtain ⟨mA, hns, hr⟩ := hx
  obtain ⟨od, ho, hl⟩ := lookIn_ns hns
  have l : List.lookup ("line" : Str) [(("line" : Str), v)] = some v := by simp [List.lookup]
  obtain ⟨u, hu, ru⟩ := RelO.some_of (v := v) (o := mA "line") (by rw [← l]; exact hr "line")
  have J : PySem.W.InstAt s1.heap a oe C (some od) := ⟨ha, hz.1, by unfold PySem.W.notCls; rw [hd] <;> rfl, by rw [hz.2]; exact ho⟩
  exact HandSPX.exc_get I1.kIn J B.ga B.gg B.exC (PySem.W.findObj_own B.hd B.noN rfl (by rw [hl, hu])) (handed_of ru) ⟨v, H1, I1.tok _, ru, q⟩
end
end L2

set_option Elab.async false
set_option linter.all false
set_option maxRecDepth 100000
set_option maxHeartbeats 0
namespace BadH
open PySem PySem.Spec PyProof.Rows L2 He
/-! ### a Hook that tells of one method with a cell besides -/
abbrev InV : Type := Option (Str × Str × Arguments × FuncBody × Scope × Addr × List Str × Addr)
def inObs (K : PySem.W.Frag) (f : Addr) : InV := match K.lookup f with
  | some ⟨_, _, .func fd, _⟩ => some (fd.name, fd.qualname, fd.params, fd.body, fd.scope, fd.globals, fd.closure.map (·.1), fd.builtins)
  | _ => none
def KY (g : Addr → Option Obj) (n : Nat) : PySem.W.Frag := frT g (asD g n ++ [cStatics])
abbrev AlY : Type := (AlT × Bool) × InV
def obsY (n : Nat) (fa : List Fa) (fn : List DefD) (tf : List Defn) (ex : PySem.W.Frag → Bool) (io : PySem.W.Frag → Addr) (g : Addr → Option Obj) : AlY := ((obsT fa fn [] (KY g n), ex (KY g n) && tabsB g tf (KY g n)), inObs (KY g n) (io (KY g n)))
def valY (fn : List DefD) (iv : InV) (w : World) : AlY := ((valT fn [] w, true), iv)
structure SaysY (fa : List Fa) (fn : List DefD) (tf : List Defn) (ex : PySem.W.Frag → Bool) (io : PySem.W.Frag → Addr) (iv : InV) (w : World) (h : Heap) (K : PySem.W.Frag) : Prop where
  x : SaysX fa fn [] tf ex w h K
  i : inObs K (io K) = iv
theorem saysY_of {n : Nat} {fa : List Fa} {fn : List DefD} {tf : List Defn} {ex : PySem.W.Frag → Bool} {io : PySem.W.Frag → Addr} {iv : InV} {w : World} {h : Heap} (e : obsY n fa fn tf ex io h.get? = valY fn iv w) : SaysY fa fn tf ex io iv w h (KY h.get? n) := by
  have e1 : obsT fa fn [] (KY h.get? n) = valT fn [] w := congrArg (fun z : AlY => z.1.1) e
  have e2 : (ex (KY h.get? n) && tabsB h.get? tf (KY h.get? n)) = true := congrArg (fun z : AlY => z.1.2) e
  have e3 : inObs (KY h.get? n) (io (KY h.get? n)) = iv := congrArg (fun z : AlY => z.2) e
  obtain ⟨h1, h2⟩ := ba e2
  have key : ∀ p ∈ tf, PySem.W.codeHdIn (KY h.get? n) (cT (KY h.get? n) p).1 (cT (KY h.get? n) p).2 = true ∧ ∃ o, h.get? (cT (KY h.get? n) p).2 = some o ∧ emptyTab o = true := fun p hp => by
    obtain ⟨h3, h4⟩ := ba (List.all_eq_true.mp h2 p hp)
    refine ⟨h3, ?_⟩
    cases q : h.get? (cT (KY h.get? n) p).2 with
    | none =>
      rw [q] at h4
      cases h4
    | some o =>
      rw [q] at h4
      exact ⟨o, rfl, h4⟩
  exact ⟨⟨e1, h1, fun p hp => (key p hp).1, fun p hp => by
    obtain ⟨_, o, q, z⟩ := key p hp
    exact frT_none q z, fun p hp => by
    obtain ⟨_, o, q, z⟩ := key p hp
    rw [q, emptyTab_eq z]⟩, e3⟩
def hookY (n : Nat) (fa : List Fa) (fn : List DefD) (tf : List Defn) (ex : PySem.W.Frag → Bool) (io : PySem.W.Frag → Addr) (iv : InV) : PySem.W.Hook where
  α := AlY
  obs := fun s => obsY n fa fn tf ex io s.heap.get?
  val := fun w => valY fn iv w
  says := fun w h => ∃ K : PySem.W.Frag, K.In h ∧ SaysY fa fn tf ex io iv w h K
  of := fun _ _ e => ⟨_, frT_in, saysY_of e⟩
  keeps := fun _ _ _ ⟨K, hK, c⟩ k => ⟨K, PySem.W.Frag.In.keeps hK k, ⟨c.x.t, c.x.more, c.x.hd, c.x.out, fun p hp => k _ _ (c.x.empty p hp)⟩, c.i⟩
theorem obsY_eq {n : Nat} {fa : List Fa} {fn : List DefD} {tf : List Defn} {ex : PySem.W.Frag → Bool} {io : PySem.W.Frag → Addr} {iv : InV} {g : Addr → Option Obj} {s : Shared} (h : ∀ a, g a = s.heap.get? a) : obsY n fa fn tf ex io g = (hookY n fa fn tf ex io iv).obs s := by
  have e : g = s.heap.get? := funext h
  rw [e] <;> rfl
/-! ### what is asked of an own error's class -/
def clsB (K : PySem.W.Frag) (C : Addr) : Bool := match K.lookup C with
  | some ⟨.type "type", _, .cls cd, sl⟩ => (match cd.mro, sl.toList with
    | .ref C' :: bm, [_, _, _, _, some (.builtin n), _] => decide (C' = C) && (decide (n = "ValueError.__new__") && (!cd.hasDel && (cd.hasDict && PySem.HandSPX.refsVE bm)))
    | _, _ => false)
  | _ => false
def initB (P : Program) (K : PySem.W.Frag) (C f : Addr) (q : Str) : Bool := match K.lookup f with
  | some ⟨_, _, .func fd, _⟩ => (match fd.closure, fd.defaults, fd.kwdefaults, fd.code with
    | [(_, cc)], .none, .none, .ref cda => PySem.W.codeIn K (.ref cda) q && ((match K.lookup cc with
        | some ⟨_, _, .cell (some (.ref D)), _⟩ => decide (D = C)
        | _ => false) && (match K.lookup cda with
        | some ⟨_, _, .fields vs, _⟩ => (match (vs[2]? : Option Value) with
          | some (Value.str file _) => (P.main.file : Str) == file
          | _ => false)
        | _ => false))
    | _, _, _, _ => false)
  | _ => false
def badB (P : Program) (x : Str) (field q : Str) (K : PySem.W.Frag) : Bool :=
  clsB K (ga K x) && (eqO (PySem.W.findIn K (.ref (ga K x)) "__setattr__") (some (some (.builtin "object.__setattr__"))) && (eqO (PySem.W.findIn K (.ref (ga K x)) field) (some none) &&
  (eqO (PySem.W.findIn K (.ref (ga K x)) "__init__") (some (some (.ref (ma K (ga K x) "__init__")))) && (decide (PySem.W.typeIn K (.ref (ma K (ga K x) "__init__")) = some (.type "function")) && (PySem.W.keepIn K (.ref (ga K x)) &&
  (decide (PySem.W.subIn K (.ref (ga K x)) (.type "BaseException") = some true) && (decide (PySem.W.typeIn K (.ref (ga K x)) = some (.type "type")) && (decide (PySem.W.subIn K (.ref (ga K x)) (.type "ValueError") = some true) &&
  (decide (PySem.W.mroIn K (ga K x) (.ref (ga K x)) = some true) && (eqO (PySem.W.ks_superIn K (ga K x) (ga K x) "__init__") (some (some (.builtin "ValueError.__init__"))) && (eqO (PySem.W.nsIn K cStatics "thirdparty.any") (some none) &&
  initB P K (ga K x) (ma K (ga K x) "__init__") q)))))))))))
/-- and of isinstance(e, ..), e.f besides -/
def isB (x y : Str) (K : PySem.W.Frag) : Bool :=
  eqO (PySem.W.findIn K (.ref (ga K x)) "__getattribute__") (some (some (.builtin "BaseException.__getattribute__"))) && (eqO (PySem.W.findIn K (.ref (ga K x)) "__getattr__") (some none) && (PySem.W.hasDictIn K (ga K x) &&
  (eqO (PySem.W.findIn K (.ref (ga K x)) "__class__") (some (some (.builtin "object.__class__"))) && (eqO (PySem.W.specialIn K (.builtin "object.__class__") "__get__") (some (some (.builtin "getset_descriptor.__get__"))) &&
  (decide (PySem.W.takesIn K (.builtin "object.__class__") = some true) && (decide (PySem.W.mroIn K (ga K x) (.type "object") = some true) && (decide (PySem.W.kitOne K (.ref (ga K x)) (.ref (ga K y)) = some true) &&
  decide (PySem.W.kitOne K (.ref (ga K x)) (.type "ValueError") = some true))))))))
end BadH
namespace H85
open PySem PySem.Spec PyProof.Rows L2 He BadH
abbrev PW : Program := PySem.Challenge.pw_plaidwork_k85_whole_comma_parted_texts
def topS (i : Nat) : Stmt := PW.main.body.getD i (.Pass ⟨0, 0, 0, 0⟩)
abbrev sInit : Stmt := inClass (topS 2) 0
abbrev dd (x : Str) (i : Nat) : DefD := ⟨(x, none), x, x, defArgs (topS i), defBody (topS i), defScope (topS i), [], []⟩
def fn : List DefD := [dd "is_plain_field" 4, dd "field_text" 5, dd "write_commas" 6, dd "closed_size" 7, dd "bare_size" 8, dd "fields_of" 9, dd "read_commas" 10, dd "_law_cell" 12, dd "_law_draws" 13, dd "_law_is_integer" 14, dd "_law_is" 15, dd "_law_take" 16,
  dd "_law_field" 17, dd "_law_lines" 18, dd "_law_fields" 19, dd "_law_read" 20, dd "_law_told" 21, dd "_law_text_right" 22, dd "_law_made_field" 23, dd "_law_bent_text" 24, dd "law" 25]
def names : List Str := ["is_plain_field", "field_text", "write_commas", "closed_size", "bare_size", "fields_of", "read_commas", "_law_cell", "_law_draws", "_law_is_integer", "_law_is", "_law_take", "_law_field", "_law_lines", "_law_fields", "_law_read", "_law_told",
  "_law_text_right", "_law_made_field", "_law_bent_text", "law", "BadLine", "PlaidworkError"]
def frees : List Str := ["len", "all", "enumerate", "tuple", "abs", "int", "range", "isinstance", "bool", "str", "ValueError", "super"]
def fa : List Fa := (names.map Fa.glo) ++ (frees.map Fa.free) ++ [.exm "BadLine" "BadLine" true, .keep "PlaidworkError"]
def tf : List Defn := [("fields_of", none)]
def ex (K : PySem.W.Frag) : Bool := badB PW "BadLine" "line" "BadLine.__init__" K && isB "BadLine" "PlaidworkError" K
def io (K : PySem.W.Frag) : Addr := ma K (ga K "BadLine") "__init__"
def iv : InV := some ("__init__", "BadLine.__init__", defArgs sInit, .stmts (defBody sInit), defScope sInit, mainGlobals, ["__class__"], builtinsNs)
abbrev R : PySem.W.OpenRow := PySem.W.OpenLaw.row PySem.Challenge.rw_plaidwork_k85_whole_comma_parted_texts
abbrev hk : PySem.W.Hook := hookY 5 fa fn tf ex io iv
def ob (s : PySem.W.SharedT) : AlY := obsY 5 fa fn tf ex io (HandSHeadRun.getT s)
theorem ob_eq (s : PySem.W.SharedT) : ob s = hk.obs s.abs := obsY_eq (HandSHeadRun.getT_eq s)
def loose : List Str := ["PlaidworkError", "BadLine", "is_plain_field", "field_text", "write_commas", "closed_size", "bare_size", "fields_of", "read_commas", "_law_cell", "_law_draws", "_law_is_integer", "_law_is", "_law_take",
  "_law_field", "_law_lines", "_law_fields", "_law_read", "_law_told", "_law_text_right", "_law_made_field", "_law_bent_text"]
theorem run (w : World) : HandSHeadRun.RunEq R (PySem.W.view R.prog [25]) hk ob 1500 loose w := by
  intro os
  kernel_rfl
end H85

set_option Elab.async false
set_option linter.all false
set_option maxRecDepth 100000
set_option maxHeartbeats 4000000
namespace W85
open PySem PySem.Spec PyProof.Rows L2 H85
open TL (tl)
/-! ### signs and texts -/
def S (l : List Nat) : Str := ⟨l.toArray⟩
theorem tl_S (l : List Nat) : tl (S l) = l := rfl
theorem S_tl (x : Str) : S (tl x) = x := TL.mk_tl x
theorem len_S (l : List Nat) : (S l).length = l.length := TL.len_tl (S l)
theorem S_inj {a b : List Nat} (h : S a = S b) : a = b := congrArg tl h
theorem S_app (a b : List Nat) : S a ++ S b = S (a ++ b) := TL.ext_tl (by rw [TL.tl_append] <;> rfl)
theorem dec_S {a b : List Nat} : decide (V.str (S a) = V.str (S b)) = decide (a = b) := by
  by_cases h : a = b
  · rw [h, decide_eq_true rfl, decide_eq_true rfl]
  · rw [decide_eq_false h, decide_eq_false (fun z => h (S_inj (V.str.inj z)))]
theorem sz {n : Nat} (h : n ≤ 10000000) : n ≤ sizeLine := Nat.le_trans h (by rw [sizeLine_eq]; decide)
theorem szl {n : Nat} (h : n ≤ 10000000) : n < sizeLine := Nat.lt_of_le_of_lt h (by rw [sizeLine_eq]; decide)
/-! ### heaps: what stood stands, but for the tables and for what stands at M -/
structure Ex (T : Addr) (M : List Addr) (H H' : Hp) : Prop where
  keep : ∀ b o, b ∉ M → (∀ ps, o ≠ .tbl ps) → H b = some o → H' b = some o
  tup : ∀ b xs, H b = some (.tup xs) → H' b = some (.tup xs)
  frz : ∀ b o u, H b = some (.frz o u) → H' b = some (.frz o u)
  tab : GxR.TabG H T → GxR.TabG H' T
  free : ∀ b, H' b = none → H b = none
theorem ntL {xs : List V} : ∀ ps, HO.lst xs ≠ .tbl ps := fun _ z => by cases z
theorem ntT {xs : List V} : ∀ ps, HO.tup xs ≠ .tbl ps := fun _ z => by cases z
theorem ntD {kvs : List (Key × V)} : ∀ ps, HO.dK kvs ≠ .tbl ps := fun _ z => by cases z
theorem ntF {o : Obj} {u : HO} : ∀ ps, HO.frz o u ≠ .tbl ps := fun _ z => by cases z
section
variable {T : Addr} {M : List Addr} {K : PySem.W.Frag} {H H' H1 H2 : Hp}
theorem Ex.refl (H : Hp) : Ex T M H H := ⟨fun _ _ _ _ h => h, fun _ _ h => h, fun _ _ _ h => h, fun h => h, fun _ h => h⟩
theorem Ex.trans (a : Ex T M H H1) (b : Ex T M H1 H2) : Ex T M H H2 := ⟨fun c o m n h => b.keep c o m n (a.keep c o m n h), fun c xs h => b.tup c xs (a.tup c xs h), fun c o u h => b.frz c o u (a.frz c o u h), fun h => b.tab (a.tab h), fun c h => a.free c (b.free c h)⟩
theorem Ex.wide (a : Ex T [] H H1) : Ex T M H H1 := ⟨fun b o _ n h => a.keep b o (by simp) n h, a.tup, a.frz, a.tab, a.free⟩
theorem tab_ne {a : Addr} {o : HO} (h : GxR.TabG H T) (ha : H a = some o) (n : ∀ ps, o ≠ .tbl ps) : a ≠ T := fun z => by
  obtain ⟨ps, e, _⟩ := h
  rw [z, e] at ha
  exact n ps (Option.some.inj ha).symm
theorem tab_fresh {a : Addr} (t : GxR.TabG H T) (h : H a = none) : a ≠ T := fun z => by
  obtain ⟨ps, e, _⟩ := t
  rw [← z, h] at e
  cases e
theorem tab_upd {a : Addr} {o : HO} (h : GxR.TabG H T) (n : a ≠ T) : GxR.TabG (upd H a o) T := by
  obtain ⟨ps, e, ok⟩ := h
  exact ⟨ps, (upd_ne (fun z => n z.symm)).trans e, ok⟩
/-- a new object -/
theorem Ex.new {a : Addr} {o : HO} (h : H a = none) : Ex T M H (upd H a o) :=
  ⟨fun b u _ _ e => by rw [upd_ne (ne_of_none e h)]; exact e, fun b xs e => by rw [upd_ne (ne_of_none e h)]; exact e, fun b o' u e => by rw [upd_ne (ne_of_none e h)]; exact e, fun t => tab_upd t (tab_fresh t h),
   fun b e => by
    by_cases z : b = a
    · rw [z]; exact h
    · rw [upd_ne z] at e; exact e⟩
/-- what H does not know may change -/
theorem Ex.mut {a : Addr} {o : HO} (e : Ex T M H H1) (h : H a = none) : Ex T M H (upd H1 a o) :=
  ⟨fun b u m n q => by rw [upd_ne (ne_of_none q h)]; exact e.keep b u m n q, fun b xs q => by rw [upd_ne (ne_of_none q h)]; exact e.tup b xs q, fun b o' u q => by rw [upd_ne (ne_of_none q h)]; exact e.frz b o' u q, fun t => tab_upd (e.tab t) (tab_fresh t h),
   fun b q => by
    by_cases z : b = a
    · rw [z]; exact h
    · rw [upd_ne z] at q; exact e.free b q⟩
/-- what stands at M may change; it is no tuple, nothing frozen, no table -/
theorem Ex.at_ {a : Addr} {o u : HO} (ha : H a = some u) (hm : a ∈ M) (h1 : ∀ xs, u ≠ .tup xs) (h2 : ∀ o' u', u ≠ .frz o' u') (h3 : ∀ ps, u ≠ .tbl ps) : Ex T M H (upd H a o) :=
  ⟨fun b v m n q => by rw [upd_ne (fun z => m (by rw [z]; exact hm))]; exact q, fun b xs q => by rw [upd_ne (fun z => by rw [z, ha] at q; exact h1 xs (Option.some.inj q))]; exact q,
   fun b o' u' q => by rw [upd_ne (fun z => by rw [z, ha] at q; exact h2 o' u' (Option.some.inj q))]; exact q, fun t => tab_upd t (tab_ne t ha h3),
   fun b q => by
    by_cases z : b = a
    · rw [z, upd_same] at q; cases q
    · rw [upd_ne z] at q; exact q⟩
theorem Ex.back {a : Addr} (e : Ex T M H H1) (h : H1 a = none) : H a = none := e.free a h
theorem Ex.rdT {a : Addr} {xs : List V} (e : Ex T M H H') (h : Rd H a (.tup xs)) : Rd H' a (.tup xs) := by
  rcases h with h | ⟨o, h⟩
  · exact .inl (e.tup a _ h)
  · exact .inr ⟨o, e.frz a _ _ h⟩
theorem Ex.tupS {a : Addr} {xs : List V} (e : Ex T M H H') (h : SqT K H a xs) : SqT K H' a xs := by
  rcases h with h | h
  · exact .inl (e.rdT h)
  · exact .inr h
theorem Ex.lst {a : Addr} {xs : List V} (e : Ex T M H H') (hm : a ∉ M) (h : SqL K H a xs) : SqL K H' a xs := by
  rcases h with (h | ⟨o, h⟩) | h
  · exact .inl (.inl (e.keep a _ hm ntL h))
  · exact .inl (.inr ⟨o, e.frz a _ _ h⟩)
  · exact .inr h
theorem tupO {a : Addr} {xs : List V} (h : H a = some (.tup xs)) : SqT K H a xs := .inl (.inl h)
theorem lstO {a : Addr} {xs : List V} (h : H a = some (.lst xs)) : SqL K H a xs := .inl (.inl h)
theorem tabbed {P : Addr} (t : GxR.TabG H P) (h : GxR.Tabbed P H H') : Ex P M H H' :=
  ⟨fun b o _ n e => (h.2 b (tab_ne t e n)).trans e, fun b xs e => (h.2 b (tab_ne t e ntT)).trans e, fun b o u e => (h.2 b (tab_ne t e ntF)).trans e, fun _ => h.1, fun b e => by
    by_cases z : b = P
    · obtain ⟨⟨ps, e2, _⟩, _⟩ := h
      rw [z, e2] at e
      cases e
    · rw [← h.2 b z]; exact e⟩
end
/-! ### a line's fields, rows of them -/
/-- v is a tuple of these texts -/
def Line (K : PySem.W.Frag) (H : Hp) (v : V) (fs : List (List Nat)) : Prop := ∃ p, v = .ref p ∧ SqT K H p (fs.map fun f => V.str (S f))
inductive Lines (K : PySem.W.Frag) (H : Hp) : List V → List (List (List Nat)) → Prop where
  | nil : Lines K H [] []
  | cons {v : V} {vs : List V} {fs : List (List Nat)} {r : List (List (List Nat))} : Line K H v fs → Lines K H vs r → Lines K H (v :: vs) (fs :: r)
def Rows (K : PySem.W.Frag) (H : Hp) (v : V) (rows : List (List (List Nat))) : Prop := ∃ p vs, v = .ref p ∧ SqT K H p vs ∧ Lines K H vs rows
section
variable {T : Addr} {M : List Addr} {K : PySem.W.Frag} {H H' : Hp}
theorem Line.mono {v : V} {fs : List (List Nat)} (e : Ex T M H H') (h : Line K H v fs) : Line K H' v fs := by
  obtain ⟨p, e1, h⟩ := h
  exact ⟨p, e1, e.tupS h⟩
theorem Lines.mono {vs : List V} {r : List (List (List Nat))} (e : Ex T M H H') (h : Lines K H vs r) : Lines K H' vs r := by
  induction h with
  | nil => exact .nil
  | cons a _ ih => exact .cons (a.mono e) ih
theorem Rows.mono {v : V} {rows : List (List (List Nat))} (e : Ex T M H H') (h : Rows K H v rows) : Rows K H' v rows := by
  obtain ⟨p, vs, e1, h, l⟩ := h
  exact ⟨p, vs, e1, e.tupS h, l.mono e⟩
theorem Lines.len {vs : List V} {r : List (List (List Nat))} (h : Lines K H vs r) : vs.length = r.length := by
  induction h with
  | nil => rfl
  | cons _ _ ih => rw [List.length_cons, List.length_cons, ih]
theorem Lines.get {vs : List V} {r : List (List (List Nat))} (h : Lines K H vs r) : ∀ {i : Nat} {v : V}, vs[i]? = some v → ∃ fs, r[i]? = some fs ∧ Line K H v fs := by
  induction h with
  | nil => intro i v e; simp at e
  | cons a _ ih =>
    intro i v e
    cases i with
    | zero =>
      have z : _ = v := Option.some.inj e
      subst z
      exact ⟨_, rfl, a⟩
    | succ i => exact ih (i := i) e
theorem Lines.snoc {vs : List V} {r : List (List (List Nat))} {v : V} {fs : List (List Nat)} (h : Lines K H vs r) (hv : Line K H v fs) : Lines K H (vs ++ [v]) (r ++ [fs]) := by
  induction h with
  | nil => exact .cons hv .nil
  | cons a _ ih => exact .cons a ih
end
theorem comma : (Str.ofString ",") = S [44] := by decide +kernel
theorem quote : (Str.ofString "\"") = S [34] := by decide +kernel
theorem quotes : (Str.ofString "\"\"") = S [34, 34] := by decide +kernel
theorem newl : (Str.ofString "\n") = S [10] := by decide +kernel
theorem blank : (Str.ofString " ") = S [32] := by decide +kernel
theorem tilde : (Str.ofString "~") = S [126] := by decide +kernel
theorem nosign : (Str.ofString "") = S [] := by decide +kernel
/-! ### a def of the text as it stands behind the top -/
abbrev FnP (K : PySem.W.Frag) (x : Str) (st : Stmt) (f : Addr) (fd : FuncData) : Prop := FunD K x x (defArgs st) (defBody st) (defScope st) [] [] f fd
def DefAt (K : PySem.W.Frag) (mg : Str → Option Value) (x : Str) (st : Stmt) : Prop := ∃ (f : Addr) (fd : FuncData), FnP K x st f fd ∧ mg x = some (.ref f)
section
variable {P : Program} {w : World} {K : PySem.W.Frag} {mg : Str → Option Value} {base : Heap}
/-- a def that keeps its promise, as its callers find it -/
def Cf (P : Program) (w : World) (K : PySem.W.Frag) (mg : Str → Option Value) (base : Heap) (k : Nat) (x : Str) (sp : Sp) : Prop :=
  ∃ (f : Addr) (fd : FuncData) (ps : List Str), FnOk P w K mg base CX0 k f fd ps sp ∧ mg x = some (.ref f) ∧ PySem.W.keepIn K (.ref f) = true ∧ Binds K fd ps []
theorem cal {x : Str} {st : Stmt} {N ps : List Str} {k : Nat} {sp : Sp} (D : DefAt K mg x st) (Sc : FnScope N ps (defScope st))
    (hb : ∀ (kV doc pm : Value) (an : Option Addr) (cdv ct : Value) (us : List Value), us.length = ps.length → bindArgs (PySem.W.fnOf x x (defArgs st) (defBody st) (defScope st) .none kV doc pm an cdv ct) ⟨us, []⟩ = pure (ps.zip us))
    (len : ∀ vs H Q E, sp vs H Q E → vs.length = ps.length)
    (hbody : ∀ (f : Addr) (cdv : Value) (A : Around) (outer : List Env) (s : Shared) (H : Hp) (vs : List V) (Q : VK) (E : XK), Room k (A.deeper (envOfC x (defScope st) s.heap.objs.size f cdv)) → sp vs H Q E →
      ∃ t, PSs (cxOf CX0 P w K mg base N x (defScope st) f cdv A outer s H E).nox (defBody st) t ∧ t { nx := fun _ H' => Q .non H', rt := Q } (start N vs) H) : Cf P w K mg base (k + 1) x sp := by
  obtain ⟨f, fd, F, hm⟩ := D
  refine ⟨f, fd, ps, F.ok Sc len fun cdv A outer s H vs Q E hr h => ?_, hm, F.kp, F.bindsN hb⟩
  obtain ⟨t, h1, h2⟩ := hbody f cdv A outer s H vs Q E hr h
  exact ⟨t, h1.nox, h2⟩
/-- f(e, ..) of such a def -/
theorem pcf {X : Cx} {x : Str} {k j : Nat} {sp : Sp} {e : Expr} {es : List Expr} {t : TA} {p pos : Pos} (c : Cf X.prog X.w X.K X.mg X.base k x sp) (hr : Room j X.A) (hk : k ≤ j) (ha : PA X (e :: es) t) (hg : Gl X x := by rfl)
    (he : starEach (e :: es) X.env = (false, eval e X.env) :: starEach es X.env := by rfl) (hpl : (backTo pos (starEach es X.env)).any (·.1) = false := by rfl) (hd : (x == ("__debug__" : Str)) = false := by decide) : PE X (.Call (.Name x p) (e :: es) [] pos) (tCall sp [] E0 t) := by
  obtain ⟨f, fd, ps, F, hm, kp, b⟩ := c
  exact pe_call F (hr.mono hk) hg hm kp b .nil pass0 ha hd he hpl
end
/-! ### slices of texts by natural numbers -/
theorem cut_nn (l : List Nat) (a b : Nat) : cutS (S l) (some (a : Int)) (some (b : Int)) = S ((l.drop a).take (b - a)) := by
  refine TL.ext_tl ?_
  show (l.drop (HT.sIx (S l).length 0 (some (a : Int)))).take (HT.sIx (S l).length (S l).length (some (b : Int)) - HT.sIx (S l).length 0 (some (a : Int))) = (l.drop a).take (b - a)
  rw [HT.sIx_nat, HT.sIx_nat, len_S]
  by_cases h : a ≤ l.length
  · rw [Nat.min_eq_left h]
    by_cases h2 : b ≤ l.length
    · rw [Nat.min_eq_left h2]
    · rw [Nat.min_eq_right (by omega), List.take_of_length_le (by rw [List.length_drop]; omega), List.take_of_length_le (by rw [List.length_drop]; omega)]
  · rw [List.drop_of_length_le (show l.length ≤ min a l.length by omega), List.drop_of_length_le (show l.length ≤ a by omega)]
    simp
theorem cut_0n (l : List Nat) (b : Nat) : cutS (S l) none (some (b : Int)) = S (l.take b) := by
  refine TL.ext_tl ?_
  show (l.drop (HT.sIx (S l).length 0 none)).take (HT.sIx (S l).length (S l).length (some (b : Int)) - HT.sIx (S l).length 0 none) = l.take b
  rw [HT.sIx_nat, HT.sIx_none, len_S, List.drop_zero, Nat.sub_zero]
  by_cases h2 : b ≤ l.length
  · rw [Nat.min_eq_left h2]
  · rw [Nat.min_eq_right (by omega), List.take_of_length_le (Nat.le_refl _), List.take_of_length_le (by omega)]
theorem cut_n0 (l : List Nat) (a : Nat) : cutS (S l) (some (a : Int)) none = S (l.drop a) := by
  refine TL.ext_tl ?_
  show (l.drop (HT.sIx (S l).length 0 (some (a : Int)))).take (HT.sIx (S l).length (S l).length none - HT.sIx (S l).length 0 (some (a : Int))) = l.drop a
  rw [HT.sIx_nat, HT.sIx_none, len_S]
  by_cases h : a ≤ l.length
  · rw [Nat.min_eq_left h, List.take_of_length_le (by rw [List.length_drop]; omega)]
  · rw [List.drop_of_length_le (show l.length ≤ min a l.length by omega), List.drop_of_length_le (show l.length ≤ a by omega)]
    simp
theorem dec_sign {c k : Nat} : decide (V.str ⟨#[c]⟩ = V.str (S [k])) = decide (c = k) := by
  have e : (⟨#[c]⟩ : Str) = S [c] := rfl
  rw [e, dec_S]
  by_cases h : c = k
  · rw [h, decide_eq_true rfl, decide_eq_true rfl]
  · rw [decide_eq_false h, decide_eq_false (fun z => h (by simpa using z))]
theorem at_S {l : List Nat} {j : Nat} {c : Nat} (h : l[j]? = some c) : atI (S l).cps.toList (j : Int) = some c := by
  refine atI_nat (j := j) ?_
  exact h
/-- rules whose readings speak of K, said of K itself -/
theorem op_inK {X : Cx} (K : PySem.W.Frag) (h : X.K = K := by rfl) : OpR X (compareOp .In) (rIn K false) := h ▸ op_in_seq
theorem op_notInK {X : Cx} (K : PySem.W.Frag) (h : X.K = K := by rfl) : OpR X (compareOp .NotIn) (rIn K true) := h ▸ op_notIn_seq
end W85

set_option Elab.async false
set_option linter.all false
set_option maxRecDepth 100000
set_option maxHeartbeats 4000000
namespace W85
open PySem PySem.Spec PyProof.Rows L2 H85 CwR
open TL (tl)
section
variable {P : Program} {w : World} {K : PySem.W.Frag} {mg : Str → Option Value} {base : Heap}
/-! ### is_plain_field -/
def spPlain : Sp := fun vs H Q _ => ∃ f : List Nat, vs = [.str (S f)] ∧ Q (.bl (K85.plainF f)) H
theorem sc4 : FnScope ["field"] ["field"] (defScope (topS 4)) := ⟨rfl, rfl, rfl, by decide +kernel, rfl, by decide +kernel, by decide +kernel⟩
theorem ok_plain (D : DefAt K mg "is_plain_field" (topS 4)) : Cf P w K mg base 1 "is_plain_field" spPlain := by
  refine cal D sc4 (fun _ _ _ _ _ _ us hl => match us, hl with | [_], _ => rfl) (fun vs H Q E h => ?_) (fun f cdv A outer s H vs Q E hr h => ?_)
  · obtain ⟨z, rfl, _⟩ := h
    rfl
  · obtain ⟨z, rfl, q⟩ := h
    refine ⟨_, pss_one (ps_ret (pe_and (pe_cmpR op_notIn_sign pe_str (pv 0) rfl) (pe_one (pe_cmpR op_notIn_sign pe_str (pv 0) rfl)))), ?_⟩
    have e1 : (!decide (44 ∈ z) && !decide (34 ∈ z)) = K85.plainF z := rfl
    refine ⟨.str (S z), rfl, 44, S z, congrArg V.str comma, rfl, !decide (44 ∈ z), rfl, ?_⟩
    cases h44 : (!decide (44 ∈ z)) with
    | false =>
      rw [h44] at e1
      rw [← e1] at q
      exact iteF q
    | true =>
      rw [h44] at e1
      refine iteT ⟨.str (S z), rfl, 34, S z, congrArg V.str quote, rfl, ?_⟩
      rw [← e1] at q
      exact q
/-! ### field_text -/
/-- c + e, c a written text: behind c a token is out -/
theorem pe_addC {X : Cx} {z : Str} {k : Nat} {e : Expr} {te : TE} {p pos : Pos} {r : R2} (ho : OpR X (binaryOp .Add) r) (he : PET X e te) : PE X (.BinOp (.Constant (.str z) k p) .Add e pos) (tOp r (tC (.str z)) te) := by
  refine ⟨fun pins s σ H Q I h => ?_⟩
  refine wpAny_BinOp (Calls.Constant_str ?_)
  exact thn (he pins { s with toks := s.toks + 1 } σ H _ (by show 1 ≤ s.toks + 1; omega) (I.tok _) h) fun u s2 ⟨y, H2, I2, r2, q2⟩ => ho pins s2 σ H2 (.str z) y _ u Q I2 ⟨_, rfl⟩ r2 q2
theorem replL_dbl : ∀ f : List Nat, PySem.StrLaws.replL [34] [34, 34] f = K85.dbl f
  | [] => PySem.StrLaws.replL_nil
  | c :: r => by
    rw [K85.dbl]
    by_cases h : c = 34
    · subst h
      rw [if_pos rfl, PySem.StrLaws.replL_hit (by simp) (by simp), ← replL_dbl r]
      rfl
    · rw [if_neg h, PySem.StrLaws.replL_miss (by simp [h]), replL_dbl r]
theorem replL_undbl : ∀ f : List Nat, PySem.StrLaws.replL [34, 34] [34] (K85.dbl f) = f
  | [] => PySem.StrLaws.replL_nil
  | c :: r => by
    rw [K85.dbl]
    by_cases h : c = 34
    · subst h
      rw [if_pos rfl, PySem.StrLaws.replL_hit (by simp) (by simp)]
      show [34] ++ PySem.StrLaws.replL [34, 34] [34] (K85.dbl r) = _
      rw [replL_undbl r]
      rfl
    · rw [if_neg h, PySem.StrLaws.replL_miss (by simp [h]), replL_undbl r]
theorem repl_quote (f : List Nat) : Txt.replace (S f) (Str.ofString "\"") (Str.ofString "\"\"") = S (K85.dbl f) := by
  refine TL.ext_tl ?_
  rw [quote, quotes]
  show (Txt.replace (S f) (S [34]) (S [34, 34])).cps.toList = _
  rw [PySem.StrLaws.replace_list (by decide)]
  exact replL_dbl f
theorem repl_quotes (f : List Nat) : Txt.replace (S (K85.dbl f)) (Str.ofString "\"\"") (Str.ofString "\"") = S f := by
  refine TL.ext_tl ?_
  rw [quote, quotes]
  show (Txt.replace (S (K85.dbl f)) (S [34, 34]) (S [34])).cps.toList = _
  rw [PySem.StrLaws.replace_list (by decide)]
  exact replL_undbl f
/-- the written field -/
def spFt : Sp := fun vs H Q _ => ∃ f : List Nat, vs = [.str (S f)] ∧ f.length ≤ 1000000 ∧ Q (.str (S (K85.ft f))) H
theorem sc5 : FnScope ["field"] ["field"] (defScope (topS 5)) := ⟨rfl, rfl, rfl, by decide +kernel, rfl, by decide +kernel, by decide +kernel⟩
theorem ok_ft (D : DefAt K mg "field_text" (topS 5)) (c4 : Cf P w K mg base 1 "is_plain_field" spPlain) : Cf P w K mg base 2 "field_text" spFt := by
  refine cal D sc5 (fun _ _ _ _ _ _ us hl => match us, hl with | [_], _ => rfl) (fun vs H Q E h => ?_) (fun f cdv A outer s H vs Q E hr h => ?_)
  · obtain ⟨z, rfl, _⟩ := h
    rfl
  · obtain ⟨z, rfl, hz, q⟩ := h
    refine ⟨_, pss_one (ps_ret (pe_ifExp (pt_val (pcf c4 hr (Nat.le_refl _) (pa_cons (pv 0) pa_nil))) (pv 0) (pe_op op_add_str (pe_addC op_add_str (pet_replC (pv 0))) pe_str))), ?_⟩
    refine ⟨.str (S z), rfl, z, rfl, K85.plainF z, rfl, ?_⟩
    have hd := K85.dbl_len z
    cases hp : K85.plainF z with
    | true =>
      rw [K85.ft_plain hp] at q
      exact iteT ⟨_, rfl, q⟩
    | false =>
      rw [K85.ft_not hp] at q
      refine iteF ⟨.str (S z), rfl, S z, rfl, ?_, ?_⟩
      · rw [quotes, len_S, len_S]
        show z.length + (z.length + 1) * 2 ≤ 16777216
        omega
      · rw [repl_quote, quote]
        refine ⟨_, _, rfl, rfl, ?_, ?_⟩
        · rw [len_S, len_S]
          refine sz ?_
          show 1 + _ ≤ _
          omega
        · rw [S_app]
          refine ⟨_, _, rfl, rfl, ?_, ?_⟩
          · rw [len_S, len_S]
            refine sz ?_
            simp only [List.length_cons, List.length_append, List.length_nil]
            omega
          · rw [S_app]
            exact q
end
end W85

set_option Elab.async false
set_option linter.all false
set_option maxRecDepth 100000
set_option maxHeartbeats 4000000
namespace W85
open PySem PySem.Spec PyProof.Rows L2 H85 CwR
open TL (tl)
section
variable {P : Program} {w : World} {K : PySem.W.Frag} {mg : Str → Option Value} {base : Heap}
/-! ### closed_size -/
theorem cs_ne {n c : Nat} {r : List Nat} (h : c ≠ 34) : K85.cs n (c :: r) = K85.cs (n + 1) r := by
  cases r with
  | nil => simp [K85.cs, h]
  | cons d r => simp [K85.cs, h]
theorem cs_two {n : Nat} {r : List Nat} : K85.cs n (34 :: 34 :: r) = K85.cs (n + 2) r := by simp [K85.cs]
theorem cs_end {n : Nat} {r : List Nat} (h : r.take 1 ≠ [34]) : K85.cs n (34 :: r) = n + 1 := by
  cases r with
  | nil => simp [K85.cs]
  | cons d r =>
    have hd : d ≠ 34 := fun e => h (by rw [e]; rfl)
    simp [K85.cs, hd]
def spClosed : Sp := fun vs H Q _ => ∃ (l : List Nat) (a : Nat), vs = [.str (S l), .int (a : Int)] ∧ l.length ≤ 1000000 ∧ a < l.length ∧ Q (.int ((K85.cs 1 (l.drop (a + 1)) : Nat) : Int)) H
theorem sc7 : FnScope ["line", "at", "size"] ["line", "at"] (defScope (topS 7)) := ⟨rfl, rfl, rfl, by decide +kernel, rfl, by decide +kernel, by decide +kernel⟩
theorem ok_closed (D : DefAt K mg "closed_size" (topS 7)) (mlen : mg "len" = none) : Cf P w K mg base 1 "closed_size" spClosed := by
  refine cal D sc7 (fun _ _ _ _ _ _ us hl => match us, hl with | [_, _], _ => rfl) (fun vs H Q E h => ?_) (fun f cdv A outer s H vs Q E hr h => ?_)
  · obtain ⟨l, a, rfl, _⟩ := h
    rfl
  · obtain ⟨l, a, rfl, hl, ha, q⟩ := h
    refine ⟨_, pss_cons (ps_set (i := 2) sc7.nd rfl (.inl rfl) pe_int)
      (pss_cons (ps_while PassesOwn.never (pt_cmpR op_lt (pe_op op_add (pv 1) (pv 2)) (pe_callB call_len_str (by rfl) mlen PySem.boot_len (pa_cons (pv 0) pa_nil)) (nomark _))
        (pss_one (ps_if (pt_cmpR op_ne (pe_ix ix_str (pv 0) (pe_op op_add (pv 1) (pv 2)) (fun _ _ => rfl)) pe_str (nomark _))
          (pss_one (ps_aug (i := 2) sc7.nd rfl (.inl rfl) pe_int ip_add))
          (pss_one (ps_if (pt_cmpR op_eq (pe_slice sl_str (pv 0) (po_some (pe_op op_add (pe_op op_add (pv 1) (pv 2)) pe_int)) (po_some (pe_op op_add (pe_op op_add (pv 1) (pv 2)) pe_int))) pe_str (nomark _))
            (pss_one (ps_aug (i := 2) sc7.nd rfl (.inl rfl) pe_int ip_add))
            (pss_one (ps_ret (pe_op op_add (pv 2) pe_int))))))))
      (pss_one (ps_ret pe_int))), ?_⟩
    have hL : (S l).length = l.length := len_S l
    refine ⟨fun m σ H' => H' = H ∧ ∃ n : Nat, σ = [some (.str (S l)), some (.int (a : Int)), some (.int (n : Int))] ∧ a + n ≤ l.length + 1 ∧ m = l.length + 1 - (a + n) ∧ K85.cs n (l.drop (a + n)) = K85.cs 1 (l.drop (a + 1)), ⟨_, rfl, 1, rfl, by omega, rfl, rfl⟩, ?_⟩
    rintro m σ H' ⟨rfl, n, rfl, hn, rfl, hc⟩
    refine ⟨_, rfl, _, rfl, _, _, rfl, rfl, .str (S l), rfl, S l, rfl, sz (by omega), _, _, rfl, rfl, _, rfl, ite2 (fun e => ?_) (fun e => ?_)⟩
    · have hlt : a + n < l.length := by
        have := of_decide_eq_true e
        rw [hL] at this
        omega
      have hg : l[a + n]? = some l[a + n] := List.getElem?_eq_getElem hlt
      have hdr : l.drop (a + n) = l[a + n] :: l.drop (a + n + 1) := List.drop_eq_getElem_cons hlt
      rw [hdr] at hc
      have go : ∀ n' : Nat, n < n' → a + n' ≤ l.length + 1 → K85.cs n' (l.drop (a + n')) = K85.cs 1 (l.drop (a + 1)) → ∃ m', m' < l.length + 1 - (a + n) ∧ (H' = H' ∧ ∃ n'' : Nat, [some (V.str (S l)), some (.int (a : Int)), some (.int (n' : Int))] = [some (.str (S l)), some (.int (a : Int)), some (.int (n'' : Int))] ∧ a + n'' ≤ l.length + 1 ∧ m' = l.length + 1 - (a + n'') ∧ K85.cs n'' (l.drop (a + n'')) = K85.cs 1 (l.drop (a + 1))) := fun n' h1 h2 h3 => ⟨_, by omega, rfl, n', rfl, h2, rfl, h3⟩
      refine ⟨_, fun _ _ h => h, ?_⟩
      refine ⟨_, rfl, _, rfl, _, rfl, _, _, rfl, rfl, S l, (a : Int) + (n : Int), l[a + n], rfl, rfl, sz (by omega), at_S (j := a + n) hg, rfl, _, rfl, ?_⟩
      rw [quote, dec_sign]
      refine ite2 (fun e2 => ?_) (fun e2 => ?_)
      · have hne : l[a + n] ≠ 34 := by simpa using e2
        rw [cs_ne hne] at hc
        exact ⟨_, rfl, _, _, rfl, rfl, go (n + 1) (by omega) (by omega) hc⟩
      · have he : l[a + n] = 34 := by simpa using e2
        rw [he] at hc
        refine ⟨_, rfl, _, rfl, _, rfl, _, _, rfl, rfl, _, _, rfl, rfl, _, rfl, _, rfl, _, rfl, _, _, rfl, rfl, _, _, rfl, rfl, _, rfl, S l, rfl, sz (by omega), ?_⟩
        have e3 : cutS (S l) (some ((a : Int) + (n : Int) + 1)) (some ((a : Int) + (n : Int) + 2)) = S ((l.drop (a + n + 1)).take 1) := by
          have z := cut_nn l (a + n + 1) (a + n + 2)
          rw [show a + n + 2 - (a + n + 1) = 1 by omega] at z
          exact z
        rw [e3]
        refine ⟨rfl, _, rfl, ?_⟩
        rw [dec_S]
        refine ite2 (fun e4 => ?_) (fun e4 => ?_)
        · have h1 : (l.drop (a + n + 1)).take 1 = [34] := of_decide_eq_true e4
          have hlt2 : a + n + 1 < l.length := by
            have := congrArg List.length h1
            rw [List.length_take, List.length_drop] at this
            simp at this
            omega
          have hdr2 : l.drop (a + n + 1) = l[a + n + 1] :: l.drop (a + n + 2) := List.drop_eq_getElem_cons hlt2
          have h34 : l[a + n + 1] = 34 := by
            have z : [l[a + n + 1]] = [34] := by
              rw [hdr2] at h1
              exact h1
            exact (List.cons.inj z).1
          rw [hdr2, h34, cs_two] at hc
          exact ⟨_, rfl, _, _, rfl, rfl, go (n + 2) (by omega) (by omega) hc⟩
        · have h1 : (l.drop (a + n + 1)).take 1 ≠ [34] := fun z => e4 (decide_eq_true z)
          rw [cs_end h1] at hc
          rw [← hc] at q
          exact ⟨_, rfl, _, _, rfl, rfl, q⟩
    · have hge : l.length ≤ a + n := by
        have z : ¬ ((a : Int) + (n : Int) < ((S l).length : Int)) := fun z => e (decide_eq_true z)
        rw [hL] at z
        omega
      rw [List.drop_of_length_le hge] at hc
      have z : K85.cs n [] = 0 := by simp [K85.cs]
      rw [← hc, z] at q
      exact q
/-! ### bare_size -/
def spBare : Sp := fun vs H Q _ => ∃ (l : List Nat) (a : Nat), vs = [.str (S l), .int (a : Int)] ∧ l.length ≤ 1000000 ∧ a ≤ l.length ∧ Q (.int (((K85.untilC (l.drop a)).length : Nat) : Int)) H
theorem sc8 : FnScope ["line", "at", "size"] ["line", "at"] (defScope (topS 8)) := ⟨rfl, rfl, rfl, by decide +kernel, rfl, by decide +kernel, by decide +kernel⟩
theorem ok_bare (D : DefAt K mg "bare_size" (topS 8)) (mlen : mg "len" = none) : Cf P w K mg base 1 "bare_size" spBare := by
  refine cal D sc8 (fun _ _ _ _ _ _ us hl => match us, hl with | [_, _], _ => rfl) (fun vs H Q E h => ?_) (fun f cdv A outer s H vs Q E hr h => ?_)
  · obtain ⟨l, a, rfl, _⟩ := h
    rfl
  · obtain ⟨l, a, rfl, hl, ha, q⟩ := h
    refine ⟨_, pss_cons (ps_set (i := 2) sc8.nd rfl (.inl rfl) pe_int)
      (pss_cons (ps_while PassesOwn.never (PW.pt (pw_and (pt_cmpR op_lt (pe_op op_add (pv 1) (pv 2)) (pe_callB call_len_str (by rfl) mlen PySem.boot_len (pa_cons (pv 0) pa_nil)) (nomark _))
          (pw_and1 (pt_cmpR op_ne (pe_ix ix_str (pv 0) (pe_op op_add (pv 1) (pv 2)) (fun _ _ => rfl)) pe_str (nomark _)))))
        (pss_one (ps_aug (i := 2) sc8.nd rfl (.inl rfl) pe_int ip_add)))
      (pss_one (ps_ret (pv 2)))), ?_⟩
    have hL : (S l).length = l.length := len_S l
    refine ⟨fun m σ H' => H' = H ∧ ∃ n : Nat, σ = [some (.str (S l)), some (.int (a : Int)), some (.int (n : Int))] ∧ a + n ≤ l.length ∧ m = l.length - (a + n) ∧ n + (K85.untilC (l.drop (a + n))).length = (K85.untilC (l.drop a)).length, ⟨_, rfl, 0, rfl, by omega, rfl, by simp⟩, ?_⟩
    rintro m σ H' ⟨rfl, n, rfl, hn, rfl, hc⟩
    have done_ : (K85.untilC (l.drop (a + n))).length = 0 → tRet (tVar 2) { nx := fun _ H' => Q .non H', rt := Q } [some (.str (S l)), some (.int (a : Int)), some (.int (n : Int))] H' := fun z => by
      rw [z, Nat.add_zero] at hc
      rw [← hc] at q
      exact ⟨_, rfl, q⟩
    refine ⟨_, rfl, _, rfl, _, _, rfl, rfl, .str (S l), rfl, S l, rfl, sz (by omega), _, _, rfl, rfl, _, rfl, ite2 (fun e => ?_) (fun e => ?_)⟩
    · have hlt : a + n < l.length := by
        have := of_decide_eq_true e
        rw [hL] at this
        omega
      have hg : l[a + n]? = some l[a + n] := List.getElem?_eq_getElem hlt
      have hdr : l.drop (a + n) = l[a + n] :: l.drop (a + n + 1) := List.drop_eq_getElem_cons hlt
      refine ⟨_, rfl, _, rfl, _, rfl, _, _, rfl, rfl, S l, (a : Int) + (n : Int), l[a + n], rfl, rfl, sz (by omega), at_S (j := a + n) hg, rfl, _, rfl, ?_⟩
      rw [comma, dec_sign]
      refine ite2 (fun e2 => ?_) (fun e2 => ?_)
      · have hne : l[a + n] ≠ 44 := by simpa using e2
        rw [hdr, K85.untilC_cons hne] at hc
        refine ⟨_, fun _ _ h => h, _, rfl, _, _, rfl, rfl, l.length - (a + (n + 1)), by omega, rfl, n + 1, rfl, by omega, rfl, ?_⟩
        rw [← hc, show a + (n + 1) = a + n + 1 by omega, List.length_cons]
        omega
      · have he : l[a + n] = 44 := by simpa using e2
        refine done_ ?_
        rw [hdr, he, K85.untilC_comma]
        rfl
    · have hge : l.length ≤ a + n := by
        have z : ¬ ((a : Int) + (n : Int) < ((S l).length : Int)) := fun z => e (decide_eq_true z)
        rw [hL] at z
        omega
      refine iteF (done_ ?_)
      rw [List.drop_of_length_le hge]
      rfl
end
end W85

set_option Elab.async false
set_option linter.all false
set_option maxRecDepth 100000
set_option maxHeartbeats 4000000
namespace W85
open PySem PySem.Spec PyProof.Rows L2 H85 CwR
open TL (tl)
theorem glueT_joinL (sep : List Nat) : ∀ ys : List (List Nat), PySem.StrLaws.glueT sep (ys.map S) = K85.joinL sep ys
  | [] => rfl
  | [a] => by
    show a ++ [] = a
    rw [List.append_nil]
  | a :: b :: r => by
    show a ++ (sep ++ (b ++ PySem.StrLaws.glueL sep (r.map S))) = a ++ (sep ++ K85.joinL sep (b :: r))
    rw [← glueT_joinL sep (b :: r)]
    rfl
theorem join_S (sep : List Nat) (ys : List (List Nat)) : Txt.join (S sep) (ys.map S) = S (K85.joinL sep ys) := by
  refine TL.ext_tl ?_
  cases ys with
  | nil => rfl
  | cons a r =>
    show (Builtin.Str.glued (S sep) (S a :: r.map S)).cps.toList = K85.joinL sep (a :: r)
    rw [PySem.StrLaws.glued_list]
    exact glueT_joinL sep (a :: r)
theorem map_VS (ys : List (List Nat)) : (ys.map S).map V.str = ys.map fun f => V.str (S f) := by
  rw [List.map_map]
  rfl
theorem sum_S (ys : List (List Nat)) : ((ys.map S).map (·.length)).sum = (ys.map List.length).sum := by
  rw [List.map_map]
  congr 1
section
variable {P : Program} {w : World} {K : PySem.W.Frag} {mg : Str → Option Value} {base : Heap} {T : Addr}
/-! ### _law_field -/
def spFtE (T : Addr) : Sp := fun vs H Q _ => ∃ f : List Nat, vs = [.str (S f)] ∧ f.length ≤ 1000000 ∧ ∀ H', Ex T [] H H' → Q (.str (S (K85.ft f))) H'
theorem sc17 : FnScope ["field", "sign"] ["field"] (defScope (topS 17)) := ⟨rfl, rfl, rfl, by decide +kernel, rfl, by decide +kernel, by decide +kernel⟩
theorem odd_in {c : Nat} : inV (.str ⟨#[c]⟩) [.str (Str.ofString ","), .str (Str.ofString "\"")] = (decide (c = 44) || decide (c = 34)) := by
  rw [comma, quote]
  show (((S [44] == (⟨#[c]⟩ : Str)) || ((S [34] == (⟨#[c]⟩ : Str)) || false))) = _
  have e : ∀ k : Nat, (S [k] == (⟨#[c]⟩ : Str)) = decide (c = k) := fun k => by
    by_cases h : c = k
    · subst h
      rw [decide_eq_true rfl]
      exact beq_self_eq_true _
    · rw [decide_eq_false h]
      exact beq_eq_false_iff_ne.mpr (fun z => h (by
        have : [k] = [c] := S_inj z
        exact (List.cons.inj this).1.symm))
  rw [e, e, Bool.or_false]
/-- a comprehension without a test -/
theorem yes {te : TE} {σ : L2.St} {H : Hp} {R : VK} {B : Hp → Prop} (h : te σ H R) : tYes σ H (fun b H3 => if b = true then te σ H3 R else B H3) := by
  show (if true = true then te σ H R else B H)
  rw [if_pos rfl]
  exact h
theorem cps_S (l : List Nat) (i : Nat) : (S l).cps[i]? = l[i]? := by simp [S]
theorem take_snoc {α : Type} {l : List α} {i : Nat} {x : α} (h : l[i]? = some x) : l.take (i + 1) = l.take i ++ [x] := by
  rw [List.take_add_one, h]
  rfl
theorem ok_lfield (D : DefAt K mg "_law_field" (topS 17)) (mlen : mg "len" = none) : Cf P w K mg base 1 "_law_field" (spFtE T) := by
  refine cal D sc17 (fun _ _ _ _ _ _ us hl => match us, hl with | [_], _ => rfl) (fun vs H Q E h => ?_) (fun f cdv A outer s H vs Q E hr h => ?_)
  · obtain ⟨z, rfl, _⟩ := h
    rfl
  · obtain ⟨z, rfl, hz, q⟩ := h
    refine ⟨_, pss_cons (ps_if (pt_cmpR op_eq (pe_callB call_len_seq (by rfl) mlen PySem.boot_len (pa_cons (pe_lc (own := [("sign", 1)]) (g := gName 1) rfl sc17.nd (pi_str (pv 0)) (blkOk_by (N := ["field", "sign"]) (sc := defScope (topS 17)) (by decide +kernel))
          (fun _ _ _ _ _ => pg_name (i := 1) sc17.nd rfl (Or.inl rfl)) (fun _ _ _ _ _ => pts_one (pt_cmpR (op_inK K) (pv 1) (pe_tup (pa_cons pe_str (pa_cons pe_str pa_nil))) rfl)) (fun _ _ _ _ _ => pv 1)) pa_nil)) pe_int (nomark _))
        (pss_one (ps_ret (pv 0))) pss_nil)
      (pss_one (ps_ret (pe_op op_add_str (pe_op op_add_str pe_str (pe_join pe_str (pe_lc (own := [("sign", 1)]) (g := gName 1) rfl sc17.nd (pi_str (pv 0)) (blkOk_by (N := ["field", "sign"]) (sc := defScope (topS 17)) (by decide +kernel))
          (fun _ _ _ _ _ => pg_name (i := 1) sc17.nd rfl (Or.inl rfl)) (fun _ _ _ _ _ => pts_nil) (fun _ _ _ _ _ => pe_ifExp (pt_cmpR op_eq (pv 1) pe_str (nomark _)) (pe_op op_add_str (pv 1) (pv 1)) (pv 1))))) pe_str))), ?_⟩
    have hsz : (S z).cps.size = z.length := by
      rw [← len_S z]
      rfl
    have hdb := K85.dbl_len z
    -- the signs that ask for quotes
    refine ⟨.str (S z), rfl, S z, rfl, fun d1 hd1 => lc_it (walk_str (z := S z)) (fun i H' => Ex T [] H H' ∧ H d1 = none ∧ H' d1 = some (.lst (((z.take i).filter fun c => decide (c = 44) || decide (c = 34)).map fun c => V.str ⟨#[c]⟩)))
      ⟨.new hd1, hd1, upd_same⟩ (fun _ _ _ _ => trivial) ?_ ?_⟩
    · rintro i x H1 H2 hi ⟨e1, hf, eD⟩ ⟨rfl, c, hc, rfl⟩
      have hc' : z[i]? = some c := (cps_S z i).symm.trans hc
      refine ⟨rfl, .str ⟨#[c]⟩, rfl, sz (by decide), fun p hp => ⟨p, _, rfl, .inr (tupO upd_same), rfl, rfl, _, rfl, ?_⟩⟩
      have e2 : Ex T [] H (upd H2 p (.tup [.str (Str.ofString ","), .str (Str.ofString "\"")])) := e1.trans (.new hp)
      have eD2 : (upd H2 p (.tup [.str (Str.ofString ","), .str (Str.ofString "\"")])) d1 = some (.lst (((z.take i).filter fun c => decide (c = 44) || decide (c = 34)).map fun c => V.str ⟨#[c]⟩)) := by
        rw [upd_ne (ne_of_none eD hp)]
        exact eD
      rw [show (if false = true then !inV (.str ⟨#[c]⟩) [.str (Str.ofString ","), .str (Str.ofString "\"")] else inV (.str ⟨#[c]⟩) [.str (Str.ofString ","), .str (Str.ofString "\"")]) = (decide (c = 44) || decide (c = 34)) from odd_in]
      refine ite2 (fun e => ?_) (fun e => ?_)
      · refine ⟨.str ⟨#[c]⟩, rfl, _, eD2, szl ?_, e2.mut hf, hf, ?_⟩
        · rw [List.length_map]
          have h1 := List.length_filter_le (fun c => decide (c = 44) || decide (c = 34)) (z.take i)
          rw [List.length_take] at h1
          omega
        · rw [upd_same, take_snoc hc', List.filter_append, List.map_append, List.filter_cons, if_pos e]
          rfl
      · refine ⟨e2, hf, ?_⟩
        rw [eD2, take_snoc hc', List.filter_append, List.filter_cons, if_neg e]
        show _ = some (HO.lst (((_ : List Nat) ++ []).map _))
        rw [List.append_nil]
    · rintro H1 ⟨e1, hf, eD⟩
      rw [hsz, List.take_length] at eD
      refine ⟨d1, _, rfl, .inl (lstO eD), rfl, _, rfl, ?_⟩
      rw [List.length_map]
      refine ite2 (fun e => ?_) (fun e => ?_)
      · have h0 : (((z.filter fun c => decide (c = 44) || decide (c = 34)).length : Nat) : Int) = 0 := V.int.inj (of_decide_eq_true e)
        have hp := (K85.odd_none (f := z)).mp (by omega)
        rw [K85.ft_plain hp] at q
        exact ⟨.str (S z), rfl, q _ e1⟩
      · have hp : K85.plainF z = false := by
          cases hp : K85.plainF z with
          | false => rfl
          | true =>
            refine absurd (decide_eq_true ?_) e
            rw [K85.odd_none.mpr hp]
            rfl
        rw [K85.ft_not hp] at q
        refine ⟨⟨_, rfl⟩, .str (S z), rfl, S z, rfl, fun d2 hd2 => lc_it (walk_str (z := S z)) (fun i H' => Ex T [] H H' ∧ H d2 = none ∧ H' d2 = some (.lst ((((z.take i).map fun c => if c = 34 then [34, 34] else [c]).map S).map V.str)))
          ⟨e1.trans (.new hd2), e1.back hd2, upd_same⟩ (fun _ _ _ _ => trivial) ?_ ?_⟩
        · rintro i x H2 H3 hi ⟨e2, hf2, eD2⟩ ⟨rfl, c, hc, rfl⟩
          have hc' : z[i]? = some c := (cps_S z i).symm.trans hc
          have fin : ∀ y : List Nat, y = (if c = 34 then [34, 34] else [c]) → ∃ acc, H3 d2 = some (.lst acc) ∧ acc.length < sizeLine ∧ Ex T [] H (upd H3 d2 (.lst (acc ++ [.str (S y)]))) ∧ H d2 = none ∧
              (upd H3 d2 (.lst (acc ++ [.str (S y)]))) d2 = some (.lst ((((z.take (i + 1)).map fun c => if c = 34 then [34, 34] else [c]).map S).map V.str)) := fun y hy => by
            refine ⟨_, eD2, szl ?_, e2.mut hf2, hf2, ?_⟩
            · rw [List.length_map, List.length_map, List.length_map, List.length_take]
              omega
            · rw [upd_same, take_snoc hc', List.map_append, List.map_append, List.map_append, hy]
              rfl
          refine ⟨rfl, yes ?_⟩
          refine ⟨.str ⟨#[c]⟩, rfl, rfl, _, rfl, ?_⟩
          rw [quote, dec_sign]
          refine ite2 (fun e3 => ?_) (fun e3 => ?_)
          · have e4 : c = 34 := of_decide_eq_true e3
            refine ⟨.str ⟨#[c]⟩, rfl, .str ⟨#[c]⟩, rfl, _, _, rfl, rfl, sz (show 1 + 1 ≤ 10000000 by decide), ?_⟩
            exact fin [c, c] (by rw [if_pos e4, e4])
          · have e4 : c ≠ 34 := fun h => e3 (decide_eq_true h)
            exact ⟨.str ⟨#[c]⟩, rfl, fin [c] (by rw [if_neg e4])⟩
        · rintro H2 ⟨e2, hf2, eD2⟩
          rw [hsz, List.take_length] at eD2
          have hj : K85.joinL [] (z.map fun c => if c = 34 then [34, 34] else [c]) = K85.dbl z := by rw [K85.joinL_nil, K85.dbl_flat]
          refine ⟨_, d2, _, rfl, rfl, .inl (lstO eD2), ?_, ?_⟩
          · rw [nosign, sum_S, len_S, K85.sum_flat, K85.dbl_flat]
            show (K85.dbl z).length + _ * 0 ≤ _
            omega
          · rw [nosign, join_S, hj, quote]
            refine ⟨_, _, rfl, rfl, ?_, ?_⟩
            · rw [len_S, len_S]
              refine sz ?_
              show 1 + _ ≤ _
              omega
            · rw [S_app]
              refine ⟨_, _, rfl, rfl, ?_, ?_⟩
              · rw [len_S, len_S]
                refine sz ?_
                simp only [List.length_cons, List.length_append, List.length_nil]
                omega
              · rw [S_app]
                exact q _ e2
end
end W85

set_option Elab.async false
set_option linter.all false
set_option maxRecDepth 100000
set_option maxHeartbeats 4000000
namespace W85
open PySem PySem.Spec PyProof.Rows L2 H85 CwR
open TL (tl)
/-! ### write_commas, _law_lines: over a promise sp of a written field -/
def rJn (K : PySem.W.Frag) : V → List V → Hp → VK → Prop := fun x xs H Q => ∃ a p, ∃ ys : List Str, x = .str a ∧ xs = [.ref p] ∧ (SqL K H p (ys.map V.str) ∨ SqT K H p (ys.map V.str)) ∧ (ys.map (·.length)).sum + ys.length * a.length ≤ 16777216 ∧ Q (.str (Txt.join a ys)) H
def rAddS : R2 := fun x y H Q => ∃ i j, x = .str i ∧ y = .str j ∧ i.length + j.length ≤ sizeLine ∧ Q (.str (i ++ j)) H
def t_line (K : PySem.W.Frag) (sp : Sp) : TE := tM1 (rJn K) (tC (.str (Str.ofString ","))) (tLc (iTup K (tVar 1)) (gName 2) tYes (tCall sp [] E0 (tCons (tVar 2) tNil)) [2])
def t_wr (K : PySem.W.Frag) (sp : Sp) : TS := tRet (tM1 (rJn K) (tC (.str (Str.ofString ""))) (tLc (iTup K (tVar 0)) (gName 1) tYes (tOp rAddS (t_line K sp) (tC (.str (Str.ofString "\n")))) [1]))
section
variable {P : Program} {w : World} {K : PySem.W.Frag} {mg : Str → Option Value} {base : Heap} {T : Addr}
/-- sp tells the written field -/
def FtSp (T : Addr) (sp : Sp) : Prop := ∀ (f : List Nat) (H : Hp) (Q : VK), f.length ≤ 1000000 → (∀ H', Ex T [] H H' → Q (.str (S (K85.ft f))) H') → sp [.str (S f)] H Q E0
theorem line_read {sp : Sp} (hsp : FtSp T sp) {v x y : Option V} {u : V} {fs : List (List Nat)} {H : Hp} {Q : VK} (hl : Line K H u fs) (hz : (K85.lineT fs).length ≤ 1000000)
    (q : ∀ H', Ex T [] H H' → Q (.str (S (K85.joinC (fs.map K85.ft)))) H') : t_line K sp [v, some u, y] H Q := by
  obtain ⟨p, rfl, hS⟩ := hl
  obtain ⟨hn, hm⟩ := K85.line_len (fs := fs)
  have hj : (K85.lineT fs).length = (K85.joinC (fs.map K85.ft)).length + 1 := by
    simp [K85.lineT]
  refine ⟨⟨_, rfl⟩, .ref p, rfl, p, rfl, ⟨_, hS⟩, fun d hd => lc_it (walk_tup (xs := fs.map fun f => V.str (S f))) (fun i H' => Ex T [] H H' ∧ H d = none ∧ H' d = some (.lst ((((fs.take i).map K85.ft).map S).map V.str)))
    ⟨.new hd, hd, upd_same⟩ (fun _ _ _ h => h.1.tupS hS) ?_ ?_⟩
  · rintro i z H1 H2 hi ⟨e1, hf, eD⟩ ⟨rfl, hx⟩
    rw [List.getElem?_map] at hx
    cases hg : fs[i]? with
    | none =>
      rw [hg] at hx
      cases hx
    | some f =>
      rw [hg] at hx
      have hx' : V.str (S f) = z := Option.some.inj hx
      subst hx'
      have hmem := hm f (List.mem_of_getElem? hg)
      refine ⟨rfl, yes ⟨.str (S f), rfl, hsp f _ _ (by omega) fun H3 e3 => ⟨_, e3.keep _ _ (by simp) ntL eD, szl ?_, (e1.trans e3).mut hf, hf, ?_⟩⟩⟩
      · rw [List.length_map, List.length_map, List.length_map, List.length_take]
        omega
      · rw [upd_same, take_snoc hg, List.map_append, List.map_append, List.map_append]
        rfl
  · rintro H1 ⟨e1, hf, eD⟩
    rw [List.length_map, List.take_length] at eD
    have hlen := K85.joinL_len [44] (fs.map K85.ft)
    have hj2 := K85.joinL_comma (fs.map K85.ft)
    refine ⟨_, d, _, rfl, rfl, .inl (lstO eD), ?_, ?_⟩
    · rw [comma, sum_S, len_S, List.length_map]
      rw [hj2] at hlen
      simp only [List.length_cons, List.length_nil] at hlen ⊢
      omega
    · rw [comma, join_S, hj2]
      exact q _ e1
theorem wr_read {sp : Sp} (hsp : FtSp T sp) {v : V} {x y : Option V} {rows : List (List (List Nat))} {H : Hp} {D : Ends} (hl : Rows K H v rows) (hz : (K85.wr rows).length ≤ 1000000)
    (q : ∀ H', Ex T [] H H' → D.rt (.str (S (K85.wr rows))) H') : t_wr K sp D [some v, none, none] H := by
  obtain ⟨p, vs, rfl, hS, hL⟩ := hl
  obtain ⟨hn, hm⟩ := K85.wr_len (rows := rows)
  have hlen := hL.len
  refine ⟨⟨_, rfl⟩, .ref p, rfl, p, rfl, ⟨_, hS⟩, fun d hd => lc_it (walk_tup (xs := vs)) (fun i H' => Ex T [] H H' ∧ H d = none ∧ H' d = some (.lst ((((rows.take i).map K85.lineT).map S).map V.str)))
    ⟨.new hd, hd, upd_same⟩ (fun _ _ _ h => h.1.tupS hS) ?_ ?_⟩
  · rintro i z H1 H2 hi ⟨e1, hf, eD⟩ ⟨rfl, hx⟩
    obtain ⟨fs, hg, hline⟩ := hL.get hx
    have hmem := hm fs (List.mem_of_getElem? hg)
    refine ⟨rfl, yes (line_read hsp (x := none) (hline.mono e1) (by omega) fun H3 e3 => ⟨_, _, rfl, rfl, ?_, _, e3.keep _ _ (by simp) ntL eD, szl ?_, (e1.trans e3).mut hf, hf, ?_⟩)⟩
    · rw [newl, len_S, len_S]
      have hj : (K85.lineT fs).length = (K85.joinC (fs.map K85.ft)).length + 1 := by simp [K85.lineT]
      refine sz ?_
      simp only [List.length_cons, List.length_nil]
      omega
    · rw [List.length_map, List.length_map, List.length_map, List.length_take]
      omega
    · rw [upd_same, take_snoc hg, List.map_append, List.map_append, List.map_append, newl, S_app]
      rfl
  · rintro H1 ⟨e1, hf, eD⟩
    rw [hlen, List.take_length] at eD
    have hj : K85.joinL [] (rows.map K85.lineT) = K85.wr rows := K85.joinL_nil _
    refine ⟨_, d, _, rfl, rfl, .inl (lstO eD), ?_, ?_⟩
    · rw [nosign, sum_S, len_S, K85.sum_flat]
      have : ((rows.map K85.lineT).flatten).length ≤ 1000000 := hz
      simp only [List.length_nil, Nat.mul_zero, Nat.add_zero]
      omega
    · rw [nosign, join_S, hj]
      exact q _ e1
def spWr (K : PySem.W.Frag) (T : Addr) : Sp := fun vs H Q _ => ∃ (v : V) (rows : List (List (List Nat))), vs = [v] ∧ Rows K H v rows ∧ (K85.wr rows).length ≤ 1000000 ∧ ∀ H', Ex T [] H H' → Q (.str (S (K85.wr rows))) H'
/-- the scope of the outer, the inner comprehension -/
def lcScope : Expr → Scope
  | .ListComp _ _ sc _ => sc
  | _ => { kind := .function, names := [], isGenerator := false, isCoroutine := false }
def lcElt : Expr → Expr
  | .ListComp e _ _ _ => e
  | e => e
def argOf : Expr → Expr
  | .Call _ (a :: _) _ _ => a
  | e => e
def leftOf : Expr → Expr
  | .BinOp a _ _ _ => a
  | e => e
def retOf : Stmt → Expr
  | .Return (some e) _ => e
  | _ => .Constant .none 0 ⟨0, 0, 0, 0⟩
def outer_ (i : Nat) : Expr := argOf (retOf ((defBody (topS i)).getD 0 (.Pass ⟨0, 0, 0, 0⟩)))
def inner_ (i : Nat) : Expr := argOf (leftOf (lcElt (outer_ i)))
theorem sc6 : FnScope ["rows", "row", "field"] ["rows"] (defScope (topS 6)) := ⟨rfl, rfl, rfl, by decide +kernel, rfl, by decide +kernel, by decide +kernel⟩
theorem ok_write (D : DefAt K mg "write_commas" (topS 6)) (c5 : Cf P w K mg base 2 "field_text" spFt) : Cf P w K mg base 3 "write_commas" (spWr K T) := by
  refine cal D sc6 (fun _ _ _ _ _ _ us hl => match us, hl with | [_], _ => rfl) (fun vs H Q E h => ?_) (fun f cdv A outer s H vs Q E hr h => ⟨t_wr K spFt, ?_, ?_⟩)
  · obtain ⟨v, rows, rfl, _⟩ := h
    rfl
  · exact pss_one (ps_ret (pe_join pe_str (pe_lc (own := [("row", 1)]) (g := gName 1) (tt := tYes) (te := tOp rAddS (t_line K spFt) (tC (.str (Str.ofString "\n")))) rfl sc6.nd (pi_tup (pv 0)) (blkOk_by (N := ["rows", "row", "field"]) (sc := defScope (topS 6)) (by decide +kernel))
      (fun _ _ _ _ _ => pg_name (i := 1) sc6.nd rfl (Or.inl rfl)) (fun _ _ _ _ _ => pts_nil) (fun _ _ _ _ _ => pe_op op_add_str (pe_join pe_str
        (pe_lc (own := [("field", 2)]) (g := gName 2) (tt := tYes) (te := tCall spFt [] E0 (tCons (tVar 2) tNil)) rfl sc6.nd (pi_tup (pv 1)) (blkOk_by (N := ["rows", "row", "field"]) (sc := lcScope (outer_ 6)) (by decide +kernel))
          (fun _ _ _ _ _ => pg_name (i := 2) sc6.nd rfl (Or.inl rfl)) (fun _ _ _ _ _ => pts_nil) (fun _ _ _ _ _ => pcf c5 hr (Nat.le_refl _) (pa_cons (pv 2) pa_nil)))) pe_str))))
  · obtain ⟨v, rows, rfl, hR, hz, q⟩ := h
    exact wr_read (x := none) (y := none) (fun f H Q hf k => ⟨f, rfl, hf, k H (.refl H)⟩) hR hz q
theorem sc18 : FnScope ["lines", "line", "field"] ["lines"] (defScope (topS 18)) := ⟨rfl, rfl, rfl, by decide +kernel, rfl, by decide +kernel, by decide +kernel⟩
theorem ok_llines (D : DefAt K mg "_law_lines" (topS 18)) (c17 : Cf P w K mg base 1 "_law_field" (spFtE T)) : Cf P w K mg base 2 "_law_lines" (spWr K T) := by
  refine cal D sc18 (fun _ _ _ _ _ _ us hl => match us, hl with | [_], _ => rfl) (fun vs H Q E h => ?_) (fun f cdv A outer s H vs Q E hr h => ⟨t_wr K (spFtE T), ?_, ?_⟩)
  · obtain ⟨v, rows, rfl, _⟩ := h
    rfl
  · exact pss_one (ps_ret (pe_join pe_str (pe_lc (own := [("line", 1)]) (g := gName 1) (tt := tYes) (te := tOp rAddS (t_line K (spFtE T)) (tC (.str (Str.ofString "\n")))) rfl sc18.nd (pi_tup (pv 0)) (blkOk_by (N := ["lines", "line", "field"]) (sc := defScope (topS 18)) (by decide +kernel))
      (fun _ _ _ _ _ => pg_name (i := 1) sc18.nd rfl (Or.inl rfl)) (fun _ _ _ _ _ => pts_nil) (fun _ _ _ _ _ => pe_op op_add_str (pe_join pe_str
        (pe_lc (own := [("field", 2)]) (g := gName 2) (tt := tYes) (te := tCall (spFtE T) [] E0 (tCons (tVar 2) tNil)) rfl sc18.nd (pi_tup (pv 1)) (blkOk_by (N := ["lines", "line", "field"]) (sc := lcScope (outer_ 18)) (by decide +kernel))
          (fun _ _ _ _ _ => pg_name (i := 2) sc18.nd rfl (Or.inl rfl)) (fun _ _ _ _ _ => pts_nil) (fun _ _ _ _ _ => pcf c17 hr (Nat.le_refl _) (pa_cons (pv 2) pa_nil)))) pe_str))))
  · obtain ⟨v, rows, rfl, hR, hz, q⟩ := h
    exact wr_read (x := none) (y := none) (fun f H Q hf k => ⟨f, rfl, hf, k⟩) hR hz q
end
end W85

set_option Elab.async false
set_option linter.all false
set_option maxRecDepth 100000
set_option maxHeartbeats 4000000
namespace W85
open PySem PySem.Spec PyProof.Rows L2 H85 CwR
open TL (tl)
open K85 (Md P)
/-! ### _law_fields -/
def mdS : Md → Str
  | .start => Str.ofString "start"
  | .plain => Str.ofString "plain"
  | .closed => Str.ofString "closed"
  | .quote => Str.ofString "quote"
theorem md_in (m : Md) : inV (.str (mdS m)) [.str (Str.ofString "start"), .str (Str.ofString "plain")] = (decide (m = .start) || decide (m = .plain)) := by
  cases m <;> decide +kernel
theorem md_is (m : Md) (k : Md) : decide (V.str (mdS m) = V.str (mdS k)) = decide (m = k) := by
  cases m <;> cases k <;> decide +kernel
/-- what is left of the reading, none where it ends so -/
def spFields (K : PySem.W.Frag) (T : Addr) : Sp := fun vs H Q _ => ∃ l : List Nat, vs = [.str (S l)] ∧ l.length ≤ 100000 ∧
  (P .start [] l = none → ∀ H', Ex T [] H H' → Q .non H') ∧ (∀ fs, P .start [] l = some fs → ∀ H' v, Ex T [] H H' → Line K H' v fs → Q v H')
theorem lt_S (a b : List Nat) : decide ((S a).cps.toList < (S b).cps.toList) = decide (a < b) := rfl
theorem one_lt (a b : Nat) : decide ([a] < [b]) = decide (a < b) := by
  by_cases h : a < b
  · rw [decide_eq_true h, decide_eq_true]
    exact List.Lex.rel h
  · rw [decide_eq_false h, decide_eq_false]
    intro z
    cases z with
    | rel z => exact h z
    | cons z => cases z
theorem pr_not (c : Nat) : K85.pr c = !(decide (c < 32) || decide (126 < c)) := by
  unfold K85.pr
  by_cases h1 : 32 ≤ c <;> by_cases h2 : c ≤ 126 <;> simp [h1, h2] <;> omega
theorem Pc {m : Md} {f r : List Nat} {c : Nat} (h : K85.pr c = true) : P m f (c :: r) = (match m with
    | .start => if c = 44 then (P .start [] r).map (f :: ·) else if c = 34 then P .closed f r else P .plain (f ++ [c]) r
    | .plain => if c = 44 then (P .start [] r).map (f :: ·) else if c = 34 then none else P .plain (f ++ [c]) r
    | .closed => if c = 34 then P .quote f r else P .closed (f ++ [c]) r
    | .quote => if c = 34 then P .closed (f ++ [34]) r else if c = 44 ∧ K85.ft f ≠ f then (P .start [] r).map (f :: ·) else none) := by
  conv => lhs; unfold K85.P
  rw [if_neg (by rw [h]; decide)] <;> (cases m <;> rfl)
theorem Pbad {m : Md} {f r : List Nat} {c : Nat} (h : K85.pr c = false) : P m f (c :: r) = none := by
  conv => lhs; unfold K85.P
  rw [if_pos h]
theorem lt_blank {c : Nat} : decide ((⟨#[c]⟩ : Str).cps.toList < (Str.ofString " ").cps.toList) = decide (c < 32) := by
  rw [blank]
  exact one_lt c 32
theorem gt_tilde {c : Nat} : decide ((Str.ofString "~").cps.toList < (⟨#[c]⟩ : Str).cps.toList) = decide (126 < c) := by
  rw [tilde]
  exact one_lt 126 c
theorem map_snoc {o : Option (List (List Nat))} {fs : List (List Nat)} {f : List Nat} : o.map ((fs ++ [f]) ++ ·) = (o.map (f :: ·)).map (fs ++ ·) := by
  cases o with
  | none => rfl
  | some x => simp
theorem app_sign (f : List Nat) (c : Nat) : S f ++ (⟨#[c]⟩ : Str) = S (f ++ [c]) := S_app f [c]
section
variable {P' : Program} {w : World} {K : PySem.W.Frag} {mg : Str → Option Value} {base : Heap} {T : Addr}
theorem sc19 : FnScope ["line", "fields", "field", "mode", "sign"] ["line"] (defScope (topS 19)) := ⟨rfl, rfl, rfl, by decide +kernel, rfl, by decide +kernel, by decide +kernel⟩
/-- field, mode and fields behind i signs -/
def Inv19 (K : PySem.W.Frag) (T : Addr) (l : List Nat) (H : Hp) (i : Nat) (σ : L2.St) (H' : Hp) : Prop :=
  ∃ (v : V) (fs : List (List Nat)) (f : List Nat) (m : Md) (x : Option V), σ = [some (.str (S l)), some v, some (.str (S f)), some (.str (mdS m)), x] ∧ Ex T [] H H' ∧ Line K H' v fs ∧ (f.length ≤ i ∧ fs.length ≤ i) ∧ (P m f (l.drop i)).map (fs ++ ·) = P .start [] l
/-- fields + (field,) -/
theorem cat_line {x0 x3 x4 : Option V} {v : V} {fs : List (List Nat)} {f : List Nat} {H : Hp} {Q : VK} (hL : Line K H v fs) (hz : fs.length ≤ 1000000) (q : ∀ v' H', Ex T [] H H' → Line K H' v' (fs ++ [f]) → Q v' H') :
    tOp (rCatA K) (tVar 1) (tTup (tCons (tVar 2) tNil)) [x0, some v, some (.str (S f)), x3, x4] H Q := by
  obtain ⟨a, rfl, hS⟩ := hL
  refine ⟨_, rfl, .str (S f), rfl, sz (show 1 ≤ 10000000 by decide), fun p hp => ⟨a, p, _, _, rfl, rfl, (Ex.new (T := T) (M := []) hp).tupS hS, tupO upd_same, sz ?_, fun e => ?_, fun _ e => (by cases e), fun _ _ p3 hp3 => ?_⟩⟩
  · rw [List.length_map]
    show fs.length + 1 ≤ _
    omega
  · cases fs with
    | nil => exact q _ _ (.new hp) ⟨p, rfl, tupO upd_same⟩
    | cons g r => cases e
  · refine q _ _ ((Ex.new hp).trans (.new hp3)) ⟨p3, rfl, tupO ?_⟩
    rw [upd_same, List.map_append]
    rfl
theorem ok_lfields (D : DefAt K mg "_law_fields" (topS 19)) (c17 : Cf P' w K mg base 1 "_law_field" (spFtE T)) : Cf P' w K mg base 2 "_law_fields" (spFields K T) := by
  refine cal D sc19 (fun _ _ _ _ _ _ us hl => match us, hl with | [_], _ => rfl) (fun vs H Q E h => ?_) (fun f cdv A outer s H vs Q E hr h => ?_)
  · obtain ⟨l, rfl, _⟩ := h
    rfl
  · obtain ⟨l, rfl, hl, qN, qS⟩ := h
    refine ⟨_, pss_cons (ps_set (i := 1) sc19.nd rfl (.inl rfl) (pe_tup pa_nil))
      (pss_cons (ps_set (i := 2) sc19.nd rfl (.inl rfl) pe_str)
      (pss_cons (ps_set (i := 3) sc19.nd rfl (.inl rfl) pe_str)
      (pss_cons (ps_for PassesOwn.never rfl (pi_str (pv 0)) (pg_name (i := 4) sc19.nd rfl (.inl rfl))
        (pss_cons (ps_if (PW.pt (pw_or (pt_cmpR op_lt_str (pv 4) pe_str (nomark _)) (pw_or1 (pt_cmpR op_gt_str (pv 4) pe_str (nomark _))))) (pss_one (ps_ret pe_non)) pss_nil)
        (pss_one (ps_if (pt_cmpR (op_inK K) (pv 3) (pe_tup (pa_cons pe_str (pa_cons pe_str pa_nil))) rfl)
          (pss_one (ps_if (pt_cmpR op_eq (pv 4) pe_str (nomark _))
            (pss_one (ps_par3 (i := 1) (j := 2) (l := 3) rfl sc19.nd rfl rfl rfl (by decide) (by decide) (by decide) rfl rfl rfl (pa_cons (pe_op op_catA (pv 1) (pe_tup (pa_cons (pv 2) pa_nil))) (pa_cons pe_str (pa_cons pe_str pa_nil))) (by rfl)))
            (pss_one (ps_if (pt_cmpR op_eq (pv 4) pe_str (nomark _))
              (pss_cons (ps_if (pt_cmpR op_eq (pv 3) pe_str (nomark _)) (pss_one (ps_ret pe_non)) pss_nil)
                (pss_one (ps_set (i := 3) sc19.nd rfl (.inl rfl) pe_str)))
              (pss_one (ps_par (i := 2) (j := 3) rfl sc19.nd rfl rfl (by decide) rfl rfl (pa_cons (pe_op op_add_str (pv 2) (pv 4)) (pa_cons pe_str pa_nil)) (by rfl)))))))
          (pss_one (ps_if (pt_cmpR op_eq (pv 3) pe_str (nomark _))
            (pss_one (ps_if (pt_cmpR op_eq (pv 4) pe_str (nomark _))
              (pss_one (ps_set (i := 3) sc19.nd rfl (.inl rfl) pe_str))
              (pss_one (ps_set (i := 2) sc19.nd rfl (.inl rfl) (pe_op op_add_str (pv 2) (pv 4))))))
            (pss_one (ps_if (pt_cmpR op_eq (pv 4) pe_str (nomark _))
              (pss_one (ps_par (i := 2) (j := 3) rfl sc19.nd rfl rfl (by decide) rfl rfl (pa_cons (pe_op op_add_str (pv 2) (pv 4)) (pa_cons pe_str pa_nil)) (by rfl)))
              (pss_one (ps_if (PW.pt (pw_and (pt_cmpR op_eq (pv 4) pe_str (nomark _)) (pw_and1 (pt_cmpR op_ne (pcf c17 hr (by decide) (pa_cons (pv 2) pa_nil)) (pv 2) (nomark _)))))
                (pss_one (ps_par3 (i := 1) (j := 2) (l := 3) rfl sc19.nd rfl rfl rfl (by decide) (by decide) (by decide) rfl rfl rfl (pa_cons (pe_op op_catA (pv 1) (pe_tup (pa_cons (pv 2) pa_nil))) (pa_cons pe_str (pa_cons pe_str pa_nil))) (by rfl)))
                (pss_one (ps_ret pe_non))))))))))))
      (pss_cons (ps_if (PW.pt (pw_or (pt_cmpR op_eq (pv 3) pe_str (nomark _)) (pw_or1 (PW.pt (pw_and (pt_cmpR op_eq (pv 3) pe_str (nomark _)) (pw_and1 (pt_cmpR op_eq (pcf c17 hr (by decide) (pa_cons (pv 2) pa_nil)) (pv 2) (nomark _))))))))
        (pss_one (ps_ret pe_non)) pss_nil)
      (pss_one (ps_ret (pe_op op_catA (pv 1) (pe_tup (pa_cons (pv 2) pa_nil))))))))), ?_⟩
    have hsz : (S l).cps.size = l.length := by
      rw [← len_S l]
      rfl
    refine ⟨sz (Nat.zero_le _), fun p0 hp0 => ⟨.str (S l), rfl, S l, rfl, for_it (walk_str (z := S l)) (Inv19 K T l H) ?_ (fun _ _ _ _ _ => trivial) ?_ ?_⟩⟩
    · refine ⟨.ref p0, [], [], .start, none, rfl, .new hp0, ⟨p0, rfl, tupO upd_same⟩, ⟨Nat.le_refl _, Nat.le_refl _⟩, ?_⟩
      rw [List.drop_zero]
      cases P .start [] l <;> rfl
    · rintro i x σ H1 H2 hi ⟨v, fs, f, m, x0, rfl, e1, hL, ⟨hfl, hfl2⟩, hP⟩ ⟨rfl, c, hc, rfl⟩
      have hc' : l[i]? = some c := (cps_S l i).symm.trans hc
      have hil : i < l.length := (List.getElem?_eq_some_iff.mp hc').1
      have hdr : l.drop i = c :: l.drop (i + 1) := by
        have e := (List.getElem?_eq_some_iff.mp hc').2
        rw [← e]
        exact List.drop_eq_getElem_cons hil
      rw [hdr] at hP
      have none_ : P m f (c :: l.drop (i + 1)) = none → Q .non H2 := fun z => qN (by rw [← hP, z]; rfl) H2 e1
      have hfs : fs.length ≤ 1000000 := by omega
      have next_ : ∀ (v' : V) (fs' : List (List Nat)) (f' : List Nat) (m' : Md) (H' : Hp), Ex T [] H H' → Line K H' v' fs' → f'.length ≤ i + 1 ∧ fs'.length ≤ i + 1 → (P m' f' (l.drop (i + 1))).map (fs' ++ ·) = (P m f (c :: l.drop (i + 1))).map (fs ++ ·) →
          Inv19 K T l H (i + 1) [some (.str (S l)), some v', some (.str (S f')), some (.str (mdS m')), some (.str ⟨#[c]⟩)] H' := fun v' fs' f' m' H' a1 a2 a3 a4 => ⟨v', fs', f', m', _, rfl, a1, a2, a3, a4.trans hP⟩
      have sgl : (⟨#[c]⟩ : Str).length = 1 := rfl
      refine ⟨.str ⟨#[c]⟩, rfl, ⟨#[c]⟩, Str.ofString " ", rfl, rfl, _, rfl, ?_⟩
      rw [lt_blank]
      refine ite2 (fun e => ?_) (fun e => ⟨.str ⟨#[c]⟩, rfl, ⟨#[c]⟩, Str.ofString "~", rfl, rfl, _, rfl, ?_⟩)
      · refine iteT ?_
        exact none_ (Pbad (by rw [pr_not, e] <;> rfl))
      rw [gt_tilde]
      cases e' : decide (126 < c) with
      | true => exact none_ (Pbad (by rw [pr_not, e', Bool.or_true] <;> rfl))
      | false =>
        have hpr : K85.pr c = true := by
          rw [pr_not, e', Bool.eq_false_iff.mpr e] <;> rfl
        rw [Pc hpr] at none_ next_
        refine iteF ?_
        -- if mode in ('start', 'plain')
        refine ⟨.str (mdS m), rfl, sz (show 2 ≤ 10000000 by decide), fun p hp => ⟨p, _, rfl, .inr (tupO upd_same), rfl, rfl, _, rfl, ?_⟩⟩
        rw [show (if false = true then !inV (.str (mdS m)) [.str (Str.ofString "start"), .str (Str.ofString "plain")] else inV (.str (mdS m)) [.str (Str.ofString "start"), .str (Str.ofString "plain")]) = (decide (m = .start) || decide (m = .plain)) from md_in m]
        have e2 := e1.trans (Ex.new (T := T) (M := []) (o := .tup [.str (Str.ofString "start"), .str (Str.ofString "plain")]) hp)
        have hL2 := hL.mono (Ex.new (T := T) (M := []) (o := .tup [.str (Str.ofString "start"), .str (Str.ofString "plain")]) hp)
        refine ite2 (fun hm => ⟨.str ⟨#[c]⟩, rfl, rfl, _, rfl, ?_⟩) (fun hm => ⟨.str (mdS m), rfl, rfl, _, rfl, ?_⟩)
        · rw [comma, dec_sign]
          refine ite2 (fun h44 => ?_) (fun h44 => ⟨.str ⟨#[c]⟩, rfl, rfl, _, rfl, ?_⟩)
          · have h44' : c = 44 := of_decide_eq_true h44
            refine cat_line (T := T) hL2 hfs fun v' H3 e3 hL3 => ⟨_, _, _, rfl, ?_⟩
            refine next_ v' (fs ++ [f]) [] .start H3 (e2.trans e3) hL3 ⟨Nat.zero_le _, by simp; omega⟩ ?_
            rw [map_snoc]
            cases m with
            | start => simp [h44']
            | plain => simp [h44']
            | closed => simp at hm
            | quote => simp at hm
          · have h44' : c ≠ 44 := fun z => h44 (decide_eq_true z)
            rw [quote, dec_sign]
            refine ite2 (fun h34 => ⟨.str (mdS m), rfl, rfl, _, rfl, ?_⟩) (fun h34 => ?_)
            · have h34' : c = 34 := of_decide_eq_true h34
              rw [show decide (V.str (mdS m) = V.str (Str.ofString "plain")) = decide (m = .plain) from md_is m .plain]
              refine ite2 (fun hm2 => ?_) (fun hm2 => ?_)
              · have hm3 : m = .plain := of_decide_eq_true hm2
                refine qN ?_ _ e2
                rw [← hP, Pc hpr, hm3]
                simp [h44', h34']
              · have hm3 : m = .start := by
                  cases m with
                  | start => rfl
                  | plain => exact absurd rfl hm2
                  | closed => simp at hm
                  | quote => simp at hm
                refine next_ v fs f .closed _ e2 hL2 ⟨by omega, by omega⟩ ?_
                rw [hm3]
                simp [h44', h34']
            · have h34' : c ≠ 34 := fun z => h34 (decide_eq_true z)
              refine ⟨.str (S f), rfl, .str ⟨#[c]⟩, rfl, _, _, rfl, rfl, sz ?_, _, _, rfl, ?_⟩
              · rw [len_S, sgl]
                omega
              · rw [app_sign]
                refine next_ v fs (f ++ [c]) .plain _ e2 hL2 ⟨by simp; omega, by omega⟩ ?_
                cases m with
                | start => simp [h44', h34']
                | plain => simp [h44', h34']
                | closed => simp at hm
                | quote => simp at hm
        · rw [show decide (V.str (mdS m) = V.str (Str.ofString "closed")) = decide (m = .closed) from md_is m .closed]
          refine ite2 (fun hm2 => ⟨.str ⟨#[c]⟩, rfl, rfl, _, rfl, ?_⟩) (fun hm2 => ⟨.str ⟨#[c]⟩, rfl, rfl, _, rfl, ?_⟩)
          · have hm3 : m = .closed := of_decide_eq_true hm2
            rw [quote, dec_sign]
            refine ite2 (fun h34 => ?_) (fun h34 => ?_)
            · have h34' : c = 34 := of_decide_eq_true h34
              refine next_ v fs f .quote _ e2 hL2 ⟨by omega, by omega⟩ ?_
              rw [hm3]
              simp [h34']
            · have h34' : c ≠ 34 := fun z => h34 (decide_eq_true z)
              refine ⟨.str (S f), rfl, .str ⟨#[c]⟩, rfl, _, _, rfl, rfl, sz ?_, ?_⟩
              · rw [len_S, sgl]
                omega
              · rw [app_sign]
                have k := next_ v fs (f ++ [c]) .closed _ e2 hL2 ⟨by simp; omega, by omega⟩ (by rw [hm3]; simp [h34'])
                rw [hm3]
                exact k
          · have hm3 : m = .quote := by
              cases m with
              | start => simp at hm
              | plain => simp at hm
              | closed => exact absurd rfl hm2
              | quote => rfl
            rw [quote, dec_sign]
            refine ite2 (fun h34 => ?_) (fun h34 => ⟨.str ⟨#[c]⟩, rfl, rfl, _, rfl, ?_⟩)
            · have h34' : c = 34 := of_decide_eq_true h34
              refine ⟨.str (S f), rfl, .str ⟨#[c]⟩, rfl, _, _, rfl, rfl, sz ?_, _, _, rfl, ?_⟩
              · rw [len_S, sgl]
                omega
              · rw [app_sign]
                refine next_ v fs (f ++ [c]) .closed _ e2 hL2 ⟨by simp; omega, by omega⟩ ?_
                rw [hm3]
                simp [h34']
            · have h34' : c ≠ 34 := fun z => h34 (decide_eq_true z)
              rw [comma, dec_sign]
              refine ite2 (fun h44 => ⟨.str (S f), rfl, f, rfl, by omega, fun H3 e3 => ⟨.str (S f), rfl, rfl, _, rfl, ?_⟩⟩) (fun h44 => ?_)
              · have h44' : c = 44 := of_decide_eq_true h44
                rw [dec_S]
                refine ite2 (fun hf => ?_) (fun hf => ?_)
                · have hf' : K85.ft f ≠ f := by simpa using hf
                  refine cat_line (T := T) (hL2.mono e3) hfs fun v' H4 e4 hL4 => ⟨_, _, _, rfl, ?_⟩
                  refine next_ v' (fs ++ [f]) [] .start H4 ((e2.trans e3).trans e4) hL4 ⟨Nat.zero_le _, by simp; omega⟩ ?_
                  rw [map_snoc, hm3]
                  simp [h44', hf']
                · have hf' : K85.ft f = f := by simpa using hf
                  refine qN ?_ _ (e2.trans e3)
                  rw [← hP, Pc hpr, hm3]
                  simp [h34', hf']
              · have h44' : c ≠ 44 := fun z => h44 (decide_eq_true z)
                refine iteF ?_
                refine qN ?_ _ e2
                rw [← hP, Pc hpr, hm3]
                simp [h34', h44']
    · rintro σ H1 ⟨v, fs, f, m, x0, rfl, e1, hL, ⟨hfl, hfl2⟩, hP⟩
      rw [hsz, List.drop_length] at hP
      rw [hsz] at hfl hfl2
      have fin : P m f [] = some [f] → ∀ H2, Ex T [] H1 H2 → tRet (tOp (rCatA K) (tVar 1) (tTup (tCons (tVar 2) tNil))) { nx := fun _ H' => Q .non H', rt := Q } [some (.str (S l)), some v, some (.str (S f)), some (.str (mdS m)), x0] H2 := fun z H2 e2 => by
        refine cat_line (T := T) (hL.mono e2) (by omega) fun v' H3 e3 hL3 => qS (fs ++ [f]) ?_ H3 v' ((e1.trans e2).trans e3) hL3
        rw [← hP, z]
        rfl
      have non_ : P m f [] = none → ∀ H2, Ex T [] H1 H2 → Q .non H2 := fun z H2 e2 => qN (by rw [← hP, z] <;> rfl) H2 (e1.trans e2)
      refine ⟨.str (mdS m), rfl, rfl, _, rfl, ?_⟩
      rw [show decide (V.str (mdS m) = V.str (Str.ofString "closed")) = decide (m = .closed) from md_is m .closed]
      refine ite2 (fun hm => ?_) (fun hm => ⟨.str (mdS m), rfl, rfl, _, rfl, ?_⟩)
      · have hm' : m = .closed := of_decide_eq_true hm
        refine iteT ?_
        exact non_ (by rw [hm']; unfold K85.P; simp) _ (.refl _)
      · have hm' : m ≠ .closed := fun z => hm (decide_eq_true z)
        rw [show decide (V.str (mdS m) = V.str (Str.ofString "quote")) = decide (m = .quote) from md_is m .quote]
        refine ite2 (fun hq => ⟨.str (S f), rfl, f, rfl, by omega, fun H2 e2 => ⟨.str (S f), rfl, rfl, _, rfl, ?_⟩⟩) (fun hq => ?_)
        · have hq' : m = .quote := of_decide_eq_true hq
          rw [dec_S]
          refine ite2 (fun hf => ?_) (fun hf => ?_)
          · have hf' : K85.ft f = f := of_decide_eq_true hf
            exact non_ (by rw [hq']; unfold K85.P; simp [hf']) _ e2
          · have hf' : K85.ft f ≠ f := fun z => hf (decide_eq_true z)
            exact fin (by rw [hq']; unfold K85.P; simp [hf']) _ e2
        · have hq' : m ≠ .quote := fun z => hq (decide_eq_true z)
          refine iteF ?_
          exact fin (by unfold K85.P; simp [hm', hq']) _ (.refl _)
end
end W85

set_option Elab.async false
set_option linter.all false
set_option maxRecDepth 100000
set_option maxHeartbeats 4000000
namespace W85
open PySem PySem.Spec PyProof.Rows L2 H85 CwR
open TL (tl)
section
variable {X : Cx}
/-- x = (a == 'c'): behind it a token is out -/
theorem pss_eqc {i j : Nat} {x c : Str} {a : Expr} {ta : TE} {u : TS} {rest : List Stmt} {cpos pc pos' pos : Pos} (hN : X.N.Nodup) (hi : X.N[i]? = some x) (hx : Loc X.env.scope x) (ha : PE X a ta) (h2 : PSsT X rest u)
    (hs : swapsWith (.Compare a [.Eq] [.Constant (.str c) j cpos] pc) (some (.Name x pos')) pos.line X.env = pure false := by rfl) (hf : X.fn x = true ∨ X.env.scope.names.lookup x = some .local := by first | exact .inl rfl | exact .inr rfl | assumption) :
    PSs X (.Assign [.Name x pos'] (.Compare a [.Eq] [.Constant (.str c) j cpos] pc) pos :: rest) (tSeq (tAsg (tOp rEq ta (tC (.str c))) (gName i)) u) := by
  refine ⟨fun pins s σ H D I h => ?_⟩
  refine wpAny_execs_cons (wpAny_Assign_Name (wpAny_Compare1 (thn (ha.run pins s σ H _ I h) fun v s1 ⟨y, H1, I1, r1, q1⟩ => Calls.Constant_str ?_)) hs)
  refine wpAny_mono (PySem.wpAny_toks (op_eq pins { s1 with toks := s1.toks + 1 } σ H1 y (.str c) v _ _ (I1.tok _) r1 ⟨_, rfl⟩ (show rEq y (.str c) H1 (fun z H2 => u D (σ.set i (some z)) H2) from q1))) (fun b s2 q => ?_) fun _ _ z => z.2
  obtain ⟨hk, z, H2, I2, r2, q2⟩ := q
  refine wpAny_mono (PySem.wpAny_toks (store_ok (v := z) (u := b) (Q := fun _ s3 => Inv X pins (σ.set i (some z)) H2 s3) I2 hN hi hx r2 (fun _ I3 => I3) hf)) (fun _ s3 q => ?_) fun _ _ z => z.2
  have hk3 : s2.toks ≤ s3.toks := q.1
  have hk2 : s1.toks + 1 ≤ s2.toks := hk
  exact h2 pins s3 _ H2 D (by omega) q.2 q2
theorem pet_if {t a b : Expr} {tt : TT} {ta tb : TE} {pos : Pos} (ht : PT X t tt) (ha : PET X a ta) (hb : PET X b tb) : PET X (.IfExp t a b pos) (tIf tt ta tb) := by
  intro pins s σ H Q h0 I h
  refine wpAny_IfExp (wpAny_mono (PySem.wpAny_toks (ht.run pins s σ H _ I h)) (fun d s1 q => ?_) fun _ _ z => z.2)
  obtain ⟨hk, H1, I1, q1⟩ := q
  cases d with
  | true => exact ha pins s1 σ H1 Q (Nat.le_trans h0 hk) I1 q1
  | false => exact hb pins s1 σ H1 Q (Nat.le_trans h0 hk) I1 q1
theorem pst_set {i : Nat} {x : Str} {e : Expr} {te : TE} {pos' pos : Pos} (hN : X.N.Nodup) (hi : X.N[i]? = some x) (hx : Loc X.env.scope x) (he : PET X e te)
    (hs : swapsWith e (some (.Name x pos')) pos.line X.env = pure false := by rfl) (hf : X.fn x = true ∨ X.env.scope.names.lookup x = some .local := by first | exact .inl rfl | exact .inr rfl | assumption) :
    PST X (.Assign [.Name x pos'] e pos) (tAsg te (gName i)) := by
  intro pins s σ H D h0 I h
  refine wpAny_Assign_Name (thn (he pins s σ H _ h0 I h) fun v s1 ⟨y, H1, I1, r1, q1⟩ => ?_) hs
  exact store_ok (v := y) (u := v) (Q := fun _ s3 => SP X pins D .next s3) I1 hN hi hx r1 (fun s3 I3 => ⟨_, H1, I3, q1⟩) hf
end
theorem elt_chain {prog : Program} {w : World} {scope : Scope} {x a b : Str} {j k : Nat} {p1 p2 p3 p4 : Pos} (hk : scope.kind = .function) (hl : scope.names.lookup x = some .local) (hd : (x == ("__debug__" : Str)) = false := by decide)
    (hm' : lastMarks [.LtE, .LtE] [.Name x p2, .Constant (.str b) k p3] = false := by with_unfolding_all rfl) :
    GxR.EltP prog w scope x (.Compare (.Constant (.str a) j p1) [.LtE, .LtE] [.Name x p2, .Constant (.str b) k p3] p4) (fun c => !(decide ([c] < a.cps.toList)) && !(decide (b.cps.toList < [c]))) := by
  intro cenv A' E' c t s₂ m₂ hs hn hm
  have ld : ∀ (n : Nat) (Q : Value → Shared → Prop), Q (.str ⟨#[c]⟩ t) { s₂ with toks := n } → wpAny (model prog w) A' (eval (.Name x p2) cenv) Q E' { s₂ with toks := n } := fun n Q q =>
    wpAny_Name (wpAny_loadName_local (by rw [hs]; exact hk) (show cenv.scope.names.lookup x = some .local by rw [hs]; exact hl) hn hm q) hd
  refine Compare_chain (Calls.Constant_str (chain_link (ld _ _ (PySem.P.le_str (wpAny_truthy_bool ?_))))) hm'
  have e0 : (⟨#[c]⟩ : Str).cps.toList = [c] := rfl
  rw [e0]
  cases h1 : decide ([c] < a.cps.toList) with
  | true => exact ite_ff ⟨by show _ = Value.bool (!decide ([c] < a.cps.toList) && _); rw [h1]; rfl, GxR.keeps_tok _ _⟩
  | false =>
    refine ite_tt (chain_last (Calls.Constant_str (PySem.P.le_str ?_)))
    rw [e0]
    exact ⟨by show _ = Value.bool (!decide ([c] < a.cps.toList) && _); rw [h1]; rfl, GxR.keeps_tok _ _⟩
end W85

set_option Elab.async false
set_option linter.all false
set_option maxRecDepth 100000
set_option maxHeartbeats 8000000
namespace W85
open PySem PySem.Spec PyProof.Rows L2 H85 CwR
open TL (tl)
open K85 (Md P)
/-! ### the plain steps of fields_of -/
theorem head_take {l : List Nat} {k : Nat} : l.take 1 = [k] ↔ l.head? = some k := by
  cases l with
  | nil => simp
  | cons c r => simp
theorem cut_inner (b : List Nat) : cutS (S (34 :: (b ++ [34]))) (some 1) (some (-1)) = S b := by
  refine TL.ext_tl ?_
  have hl : (S (34 :: (b ++ [34]))).length = b.length + 2 := by
    rw [len_S]
    simp
  show ((34 :: (b ++ [34])).drop (HT.sIx (S (34 :: (b ++ [34]))).length 0 (some 1))).take (HT.sIx (S (34 :: (b ++ [34]))).length (S (34 :: (b ++ [34]))).length (some (-1)) - HT.sIx (S (34 :: (b ++ [34]))).length 0 (some 1)) = b
  have e1 : HT.sIx (S (34 :: (b ++ [34]))).length 0 (some 1) = 1 := by
    have z := HT.sIx_nat (b.length + 2) 0 1
    rw [hl]
    exact z.trans (by omega)
  have e2 : HT.sIx (S (34 :: (b ++ [34]))).length (S (34 :: (b ++ [34]))).length (some (-1)) = b.length + 1 := by
    rw [hl]
    show (if (-1 : Int) < 0 then ((-1 : Int) + ((b.length + 2 : Nat) : Int)).toNat else min (-1 : Int).toNat (b.length + 2)) = _
    rw [if_pos (by decide)]
    omega
  rw [e1, e2]
  show (b ++ [34]).take (b.length + 1 - 1) = b
  rw [Nat.add_sub_cancel, List.take_left']
  rfl
/-- one field: its size, word and text, and what follows -/
structure FieldAt (rest : List Nat) (q : Bool) (size : Nat) (word field : List Nat) : Prop where
  len : size ≤ rest.length
  cut : rest.take size = word
  fit : field.length ≤ word.length
  inner : q = true → ∃ b, word = 34 :: (b ++ [34]) ∧ b = K85.dbl field
  plain : q = false → field = word
  bad1 : K85.ft field ≠ word → P .start [] rest = none
  bad2 : (rest.drop size).take 1 ≠ [] → (rest.drop size).take 1 ≠ [44] → P .start [] rest = none
  last : K85.ft field = word → rest.drop size = [] → P .start [] rest = some [field]
  more : K85.ft field = word → ∀ r, rest.drop size = 44 :: r → P .start [] rest = (P .start [] r).map (field :: ·)
theorem field_quoted (r : List Nat) (hp : ∀ c ∈ r, K85.pr c = true) : (K85.cs 1 r = 0 ∧ P .start [] (34 :: r) = none) ∨ (K85.cs 1 r ≠ 0 ∧ ∃ word field, FieldAt (34 :: r) true (K85.cs 1 r) word field) := by
  have h0 : P .start [] (34 :: r) = P .closed [] r := K85.P_open r rfl
  rcases K85.cs_spec r 1 hp with ⟨z, q⟩ | ⟨g, r', e1, e2, e3, q⟩
  · exact .inl ⟨z, h0.trans (q [])⟩
  · have hq : P .start [] (34 :: r) = P .quote g r' := h0.trans (q [])
    have hr' : ∀ c ∈ r', K85.pr c = true := fun c hc => hp c (by rw [e1]; exact List.mem_append_right _ (List.mem_cons_of_mem _ hc))
    obtain ⟨p1, p2, p3, p4⟩ := K85.P_quote g r' hr' e2
    have hs : K85.cs 1 r = (34 :: (K85.dbl g ++ [34])).length := by
      rw [e3]
      simp
      omega
    have hr : 34 :: r = (34 :: (K85.dbl g ++ [34])) ++ r' := by
      rw [e1]
      simp
    have hd : (34 :: r).drop (K85.cs 1 r) = r' := by
      rw [hs, hr, List.drop_left']
      rfl
    have hpl : K85.ft g = 34 :: (K85.dbl g ++ [34]) ↔ K85.plainF g = false := by
      constructor
      · intro h
        cases hp : K85.plainF g with
        | false => rfl
        | true =>
          rw [K85.ft_plain hp] at h
          have := (K85.plain_iff.mp hp).2
          rw [h] at this
          exact absurd List.mem_cons_self this
      · exact K85.ft_not
    refine .inr ⟨by rw [e3]; omega, _, g, ?_, ?_, ?_, fun _ => ⟨K85.dbl g, rfl, rfl⟩, fun z => (by cases z), fun h => ?_, fun h1 h2 => ?_, fun h hd' => ?_, fun h r2 hd' => ?_⟩
    · rw [hs, hr, List.length_append]
      omega
    · rw [hs, hr, List.take_left']
      rfl
    · have := K85.dbl_len g
      simp only [List.length_cons, List.length_append, List.length_nil]
      omega
    · rw [hq]
      cases hp : K85.plainF g with
      | true => exact p1 hp
      | false => exact absurd (K85.ft_not hp) h
    · rw [hd] at h1 h2
      rw [hq]
      cases r' with
      | nil => exact absurd rfl h1
      | cons c r2 => exact p4 c r2 rfl (fun e => h2 (by rw [e]; rfl))
    · rw [hd] at hd'
      rw [hq]
      exact p2 (hpl.mp h) hd'
    · rw [hd] at hd'
      rw [hq]
      exact p3 (hpl.mp h) r2 hd'
theorem field_bare (rest : List Nat) (hp : ∀ c ∈ rest, K85.pr c = true) (hq : rest.take 1 ≠ [34]) : FieldAt rest false (K85.untilC rest).length (K85.untilC rest) (K85.untilC rest) := by
  obtain ⟨p1, p2, p3⟩ := K85.P_bare rest hp (fun z => hq (head_take.mpr z))
  obtain ⟨_, hrest⟩ := K85.untilC_rest rest
  have hno := K85.untilC_no rest
  have hpl : K85.ft (K85.untilC rest) = K85.untilC rest ↔ 34 ∉ K85.untilC rest := by
    rw [K85.ft_self, K85.plain_iff]
    exact ⟨fun h => h.2, fun h => ⟨hno, h⟩⟩
  refine ⟨K85.untilC_le rest, K85.untilC_take rest, Nat.le_refl _, fun z => (by cases z), fun _ => rfl, fun h => ?_, fun h1 h2 => ?_, fun h hd => p2 (hpl.mp h) hd, fun h r hd => p3 (hpl.mp h) r hd⟩
  · by_cases z : 34 ∈ K85.untilC rest
    · exact p1 z
    · exact absurd (hpl.mpr z) h
  · rcases hrest with z | ⟨r, z⟩
    · rw [z] at h1
      exact absurd rfl h1
    · rw [z] at h2
      exact absurd rfl h2
section
variable {P' : Program} {w : World} {K : PySem.W.Frag} {mg : Str → Option Value} {base : Heap}
theorem if_join {i : Nat} {b : Bool} {v : V} {ta tb : TE} {σ : L2.St} {H : Hp} {Q : VK} (h : σ[i]? = some (some (.bl b))) (ha : b = true → ∀ Q : VK, Q v H → ta σ H Q) (hb : b = false → ∀ Q : VK, Q v H → tb σ H Q) (q : Q v H) : tIf (tB (tVar i)) ta tb σ H Q := by
  refine ⟨_, h, b, rfl, ?_⟩
  cases b with
  | true => exact ha rfl Q q
  | false => exact hb rfl Q q
theorem in_end {t : List Nat} : inV (.str (S t)) [.str (Str.ofString ""), .str (Str.ofString ",")] = (decide (t = []) || decide (t = [44])) := by
  rw [comma, nosign]
  show (((S [] == S t) || ((S [44] == S t) || false))) = _
  have e : ∀ k : List Nat, (S k == S t) = decide (t = k) := fun k => by
    by_cases h : t = k
    · subst h
      rw [decide_eq_true rfl]
      exact beq_self_eq_true _
    · rw [decide_eq_false h]
      exact beq_eq_false_iff_ne.mpr (fun z => h (S_inj z).symm)
  rw [e, e, Bool.or_false]
/-- if is_quoted and size == 0, where it is not so -/
theorem seq_zero {t rest : TS} {D : Ends} {σ : L2.St} {H : Hp} {b : Bool} {n : Nat} (h3 : σ[3]? = some (some (.bl b))) (h4 : σ[4]? = some (some (.int (n : Int)))) (hz : b = true → n ≠ 0) (q : rest D σ H) :
    tSeq (tIfS (tAnd (tB (tVar 3)) (tTest (tOp rEq (tVar 4) (tC (.int 0))))) t tNext) rest D σ H := by
  refine ⟨_, h3, b, rfl, ?_⟩
  cases b with
  | false => exact iteF (iteF q)
  | true =>
    refine iteT ⟨_, h4, rfl, _, rfl, ?_⟩
    have hne : decide (V.int (n : Int) = V.int 0) = false := decide_eq_false (fun e => by
      have := V.int.inj e
      have h0 := hz rfl
      omega)
    rw [hne]
    exact iteF q
/-- as cal, for a def whose own code object is wanted -/
theorem calC {x : Str} {st : Stmt} {N ps : List Str} {k : Nat} {sp : Sp} {fd : FuncData} (F : FnP K x st (He.fAd K (x, none)) fd) (hm : mg x = some (.ref (He.fAd K (x, none)))) (Sc : FnScope N ps (defScope st))
    (hb : ∀ (kV doc pm : Value) (an : Option Addr) (cdv ct : Value) (us : List Value), us.length = ps.length → bindArgs (PySem.W.fnOf x x (defArgs st) (defBody st) (defScope st) .none kV doc pm an cdv ct) ⟨us, []⟩ = pure (ps.zip us))
    (len : ∀ vs H Q E, sp vs H Q E → vs.length = ps.length)
    (hbody : ∀ (A : Around) (outer : List Env) (s : Shared) (H : Hp) (vs : List V) (Q : VK) (E : XK), Room k (A.deeper (envOfC x (defScope st) s.heap.objs.size (He.fAd K (x, none)) (.ref (He.codeOf K (x, none))))) → sp vs H Q E →
      ∃ t, PSs (cxOf CX0 P' w K mg base N x (defScope st) (He.fAd K (x, none)) (.ref (He.codeOf K (x, none))) A outer s H E).nox (defBody st) t ∧ t { nx := fun _ H' => Q .non H', rt := Q } (start N vs) H) : Cf P' w K mg base (k + 1) x sp := by
  refine ⟨_, fd, ps, ?_, hm, F.kp, F.bindsN hb⟩
  obtain ⟨oc, od, dV, kV, doc, pm, an, cdv, ct, osl, rfl, lk, hcd, _, _⟩ := F.ex
  obtain ⟨c, rfl⟩ := He.codeIn_ref hcd
  have e : He.codeOf K (x, none) = c := He.codeOf_eq lk rfl
  subst e
  refine fn_of lk hcd Sc len fun A outer s H vs Q E hr hsp => ?_
  obtain ⟨t, h1, h2⟩ := hbody A outer s H vs Q E hr hsp
  exact ⟨t, h1.nox, h2⟩
def spFieldsOf (K : PySem.W.Frag) (T : Addr) : Sp := fun vs H Q _ => ∃ l : List Nat, vs = [.str (S l)] ∧ l.length ≤ 100000 ∧ GxR.TabG H T ∧
  (P .start [] l = none → ∀ H', Ex T [] H H' → Q .non H') ∧ (∀ fs, P .start [] l = some fs → ∀ H' v, Ex T [] H H' → Line K H' v fs → Q v H')
theorem sc9 : FnScope ["line", "fields", "at", "is_quoted", "size", "word", "field"] ["line"] (defScope (topS 9)) := ⟨rfl, rfl, rfl, by decide +kernel, rfl, by decide +kernel, by decide +kernel⟩
def tstOf : Stmt → Expr
  | .If c _ _ _ => c
  | _ => .Constant .none 0 ⟨0, 0, 0, 0⟩
def notOf : Expr → Expr
  | .UnaryOp _ a _ => a
  | e => e
def genScope : Expr → Scope
  | .GeneratorExp _ _ sc _ => sc
  | _ => { kind := .function, names := [], isGenerator := false, isCoroutine := false }
def gen9 : Expr := argOf (notOf (tstOf ((defBody (topS 9)).getD 0 (.Pass ⟨0, 0, 0, 0⟩))))
theorem gs9 (env : Env) : GxR.GenS env (genScope gen9) "sign" := ⟨rfl, rfl, by decide +kernel, rfl, rfl, fun y hy e => by
  have h : ∀ y ∈ (genScope gen9).names, y.2 ≠ .free := by decide +kernel
  exact absurd e (h y hy)⟩
theorem printable (l : List Nat) : (l.all fun c => !(decide ([c] < (Str.ofString " ").cps.toList)) && !(decide ((Str.ofString "~").cps.toList < [c]))) = l.all K85.pr := by
  congr 1
  funext c
  rw [blank, tilde]
  show (!(decide ([c] < [32])) && !(decide ([126] < [c]))) = _
  rw [one_lt, one_lt, pr_not, Bool.not_or]
theorem ok_fields {fd : FuncData} {T : Addr} (F : FnP K "fields_of" (topS 9) (He.fAd K ("fields_of", none)) fd) (hm : mg "fields_of" = some (.ref (He.fAd K ("fields_of", none)))) (TB : GxR.TabB base mg (He.codeOf K ("fields_of", none)) T)
    (c5 : Cf P' w K mg base 2 "field_text" spFt) (c7 : Cf P' w K mg base 1 "closed_size" spClosed) (c8 : Cf P' w K mg base 1 "bare_size" spBare) (mlen : mg "len" = none) (mall : mg "all" = none) (mtup : mg "tuple" = none) : Cf P' w K mg base 4 "fields_of" (spFieldsOf K T) := by
  refine calC F hm sc9 (fun _ _ _ _ _ _ us hl => match us, hl with | [_], _ => rfl) (fun vs H Q E h => ?_) (fun A outer s H vs Q E hr h => ?_)
  · obtain ⟨l, rfl, _⟩ := h
    rfl
  · obtain ⟨l, rfl, hl, hT, qN, qS⟩ := h
    refine ⟨_, pss_cons (ps_if (pt_not (pt_val (GxR.pe_allS (P := T) (hr.mono (by decide) : Room 3 _) (by rfl) mall PyProof.Rows.boot_all TB rfl (gs9 _) (pv 0) (elt_chain rfl rfl) (fun _ => rfl)))) (pss_one (ps_ret pe_non)) pss_nil)
      (pss_cons (ps_par (i := 1) (j := 2) rfl sc9.nd rfl rfl (by decide) rfl rfl (pa_cons (pe_lst pa_nil) (pa_cons pe_int pa_nil)) (by rfl))
      (pss_cons (ps_while PassesOwn.never (pt_cmpR op_le (pv 2) (pe_callB call_len_str (by rfl) mlen PySem.boot_len (pa_cons (pv 0) pa_nil)) (nomark _))
        (pss_eqc (i := 3) sc9.nd rfl (.inl rfl) (pe_slice sl_str (pv 0) (po_some (pv 2)) (po_some (pe_op op_add (pv 2) pe_int)))
          (psst_cons (PST.of (ps_set (i := 4) sc9.nd rfl (.inl rfl) (pe_ifExp (pt_val (pv 3)) (pcf c7 hr (by decide) (pa_cons (pv 0) (pa_cons (pv 2) pa_nil))) (pcf c8 hr (by decide) (pa_cons (pv 0) (pa_cons (pv 2) pa_nil))))))
          (psst_cons (PST.of (ps_if (PW.pt (pw_and (pt_val (pv 3)) (pw_and1 (pt_cmpR op_eq (pv 4) pe_int (nomark _))))) (pss_one (ps_ret pe_non)) pss_nil))
          (psst_cons (PST.of (ps_set (i := 5) sc9.nd rfl (.inl rfl) (pe_slice sl_str (pv 0) (po_some (pv 2)) (po_some (pe_op op_add (pv 2) (pv 4))))))
          (psst_cons (pst_set (i := 6) sc9.nd rfl (.inl rfl) (pet_if (pt_val (pv 3)) (pet_replC (pe_slice sl_str (pv 5) (po_some pe_int) (po_some (pe_un un_neg pe_int)))) (PET.of (pv 5))))
          (PSsT.of (pss_cons (ps_if (PW.pt (pw_or (pt_cmpR op_ne (pcf c5 hr (by decide) (pa_cons (pv 6) pa_nil)) (pv 5) (nomark _))
              (pw_or1 (pt_cmpR (op_notInK K) (pe_slice sl_str (pv 0) (po_some (pe_op op_add (pv 2) (pv 4))) (po_some (pe_op op_add (pe_op op_add (pv 2) (pv 4)) pe_int))) (pe_tup (pa_cons pe_str (pa_cons pe_str pa_nil))) rfl)))) (pss_one (ps_ret pe_non)) pss_nil)
            (pss_cons (ps_expr (pe_bm PySem.F.plainAttrs_list PySem.F.slot_list_append PySem.F.type_list_append mt_append (pv 1) (pa_cons (pv 6) pa_nil)))
            (pss_one (ps_aug (i := 2) sc9.nd rfl (.inl rfl) (pe_op op_add (pv 4) pe_int) ip_add)))))))))))
      (pss_one (ps_ret (pe_callTy call_tuple_of (by rfl) mtup PyProof.Rows.boot_tuple (pa_cons (pv 1) pa_nil)))))), ?_⟩
    have hL : (S l).length = l.length := len_S l
    refine ⟨.str (S l), rfl, S l, rfl, hT, fun H1 hH1 => ⟨_, rfl, ?_⟩⟩
    rw [show ((S l).cps.toList.all fun c => !(decide ([c] < (Str.ofString " ").cps.toList)) && !(decide ((Str.ofString "~").cps.toList < [c]))) = l.all K85.pr from printable l]
    have e1 : Ex T [] H H1 := tabbed hT hH1
    refine ite2 (fun hb => ?_) (fun hb => ?_)
    · refine qN (K85.P_bad l _ _ ?_) H1 e1
      have hb' : l.all K85.pr = false := by simpa using hb
      obtain ⟨c, hc, e⟩ := List.all_eq_false.mp hb'
      exact ⟨c, hc, Bool.eq_false_iff.mpr e⟩
    have hp : ∀ c ∈ l, K85.pr c = true := by
      have hb' : l.all K85.pr = true := by simpa using hb
      exact List.all_eq_true.mp hb'
    refine ⟨sz (Nat.zero_le _), fun d hd => ⟨_, _, rfl, ?_⟩⟩
    have hdH : H d = none := e1.back hd
    -- the loop
    refine ⟨fun m σ H' => ∃ (a : Nat) (fs : List (List Nat)) (x3 x4 x5 x6 : Option V), σ = [some (.str (S l)), some (.ref d), some (.int (a : Int)), x3, x4, x5, x6] ∧ Ex T [] H H' ∧ H' d = some (.lst (fs.map fun f => V.str (S f))) ∧ a ≤ l.length + 1 ∧ fs.length ≤ a ∧
        (a ≤ l.length → (P .start [] (l.drop a)).map (fs ++ ·) = P .start [] l) ∧ (a = l.length + 1 → P .start [] l = some fs) ∧ m = l.length + 1 - a,
      ⟨_, 0, [], none, none, none, none, rfl, e1.mut hdH, upd_same, by omega, Nat.le_refl _, fun _ => ?_, fun z => by omega, rfl⟩, ?_⟩
    · rw [List.drop_zero]
      cases P .start [] l <;> rfl
    rintro m σ H2 ⟨a, fs, x3, x4, x5, x6, rfl, e2, eD, ha, hfs, hP, hE, rfl⟩
    refine ⟨_, rfl, .str (S l), rfl, S l, rfl, sz (by omega), _, _, rfl, rfl, _, rfl, ite2 (fun hc => ?_) (fun hc => ?_)⟩
    · have hle : a ≤ l.length := by
        have := of_decide_eq_true hc
        rw [hL] at this
        omega
      have hP' := hP hle
      have hpr : ∀ c ∈ l.drop a, K85.pr c = true := fun c h => hp c (List.mem_of_mem_drop h)
      have non_ : ∀ H3, Ex T [] H2 H3 → P .start [] (l.drop a) = none → Q .non H3 := fun H3 e3 z => qN (by rw [← hP', z] <;> rfl) H3 (e2.trans e3)
      refine ⟨fun σ' H' => ∃ m', m' < l.length + 1 - a ∧ ∃ (a : Nat) (fs : List (List Nat)) (x3 x4 x5 x6 : Option V), σ' = [some (.str (S l)), some (.ref d), some (.int (a : Int)), x3, x4, x5, x6] ∧ Ex T [] H H' ∧ H' d = some (.lst (fs.map fun f => V.str (S f))) ∧ a ≤ l.length + 1 ∧ fs.length ≤ a ∧
        (a ≤ l.length → (P .start [] (l.drop a)).map (fs ++ ·) = P .start [] l) ∧ (a = l.length + 1 → P .start [] l = some fs) ∧ m' = l.length + 1 - a, fun _ _ h => h, ?_⟩
      -- is_quoted
      refine ⟨.str (S l), rfl, _, rfl, _, rfl, _, rfl, _, _, rfl, rfl, _, rfl, S l, rfl, sz (by omega), rfl, ?_⟩
      have ec : cutS (S l) (some (a : Int)) (some ((a : Int) + 1)) = S ((l.drop a).take 1) := by
        have z := cut_nn l a (a + 1)
        rw [show a + 1 - a = 1 by omega] at z
        exact z
      rw [ec, quote, dec_S]
      -- size
      have facts : (decide ((l.drop a).take 1 = [34]) = true ∧ a < l.length ∧ K85.cs 1 (l.drop (a + 1)) = 0 ∧ P .start [] (l.drop a) = none) ∨
          ∃ (size : Nat) (word field : List Nat), FieldAt (l.drop a) (decide ((l.drop a).take 1 = [34])) size word field ∧ (decide ((l.drop a).take 1 = [34]) = true → a < l.length ∧ size ≠ 0 ∧ K85.cs 1 (l.drop (a + 1)) = size) ∧ (decide ((l.drop a).take 1 = [34]) = false → (K85.untilC (l.drop a)).length = size) := by
        by_cases hq : (l.drop a).take 1 = [34]
        · have hlt : a < l.length := by
            have := congrArg List.length hq
            rw [List.length_take, List.length_drop] at this
            simp at this
            omega
          have hdr : l.drop a = l[a] :: l.drop (a + 1) := List.drop_eq_getElem_cons hlt
          have h34 : l[a] = 34 := by
            have z := hq
            rw [hdr] at z
            have z2 : [l[a]] = [34] := z
            exact (List.cons.inj z2).1
          rw [h34] at hdr
          have hpr' : ∀ c ∈ l.drop (a + 1), K85.pr c = true := fun c h => hp c (List.mem_of_mem_drop h)
          rcases field_quoted (l.drop (a + 1)) hpr' with ⟨z1, z2⟩ | ⟨z1, word, field, z2⟩
          · exact .inl ⟨decide_eq_true hq, hlt, z1, by rw [hdr]; exact z2⟩
          · refine .inr ⟨_, word, field, ?_, fun _ => ⟨hlt, z1, rfl⟩, fun z => absurd (decide_eq_true hq) (by rw [z]; decide)⟩
            rw [decide_eq_true hq, hdr]
            exact z2
        · refine .inr ⟨(K85.untilC (l.drop a)).length, K85.untilC (l.drop a), K85.untilC (l.drop a), ?_, fun z => absurd (of_decide_eq_true z) hq, fun _ => rfl⟩
          rw [decide_eq_false hq]
          exact field_bare _ hpr hq
      rcases facts with ⟨hq, hlt, hz, hnone⟩ | ⟨size, word, field, FA, hsq, hsb⟩
      · refine if_join (v := .int ((0 : Nat) : Int)) rfl (fun _ Q q => ⟨.str (S l), rfl, _, rfl, l, a, rfl, by omega, hlt, by rw [hz]; exact q⟩) (fun z => absurd hq (by rw [z]; decide)) ?_
        refine ⟨_, rfl, _, rfl, ?_⟩
        rw [hq]
        refine iteT ⟨_, rfl, rfl, _, rfl, ?_⟩
        refine iteT ?_
        exact non_ H2 (.refl _) hnone
      · have hsl : size ≤ l.length - a := by
          have := FA.len
          rw [List.length_drop] at this
          exact this
        refine if_join (v := .int (size : Int)) rfl (fun z Q q => ⟨.str (S l), rfl, _, rfl, l, a, rfl, by omega, (hsq z).1, by rw [(hsq z).2.2]; exact q⟩) (fun z Q q => ⟨.str (S l), rfl, _, rfl, l, a, rfl, by omega, hle, by rw [hsb z]; exact q⟩) ?_
        refine seq_zero rfl rfl (fun z => (hsq z).2.1) ?_
        -- word
        have ew : cutS (S l) (some (a : Int)) (some ((a : Int) + (size : Int))) = S word := by
          have z := cut_nn l a (a + size)
          rw [show a + size - a = size by omega, FA.cut] at z
          exact z
        have hwl : word.length ≤ l.length := by
          rw [← FA.cut, List.length_take, List.length_drop]
          omega
        have hfl := FA.fit
        refine ⟨.str (S l), rfl, _, rfl, _, rfl, _, rfl, _, rfl, _, _, rfl, rfl, _, rfl, S l, rfl, sz (by omega), ?_⟩
        rw [ew]
        -- field
        refine if_join (v := .str (S field)) rfl (fun z Q q => ?_) (fun z Q q => ⟨_, rfl, by rw [FA.plain z] at q; exact q⟩) ?_
        · obtain ⟨b, hb1, hb2⟩ := FA.inner z
          refine ⟨.str (S word), rfl, _, rfl, _, rfl, _, rfl, S word, rfl, sz (by rw [len_S]; omega), ?_⟩
          rw [hb1, cut_inner, hb2]
          refine ⟨_, rfl, ?_, by rw [← quote, repl_quotes]; exact q⟩
          rw [len_S, len_S]
          have hz : (K85.dbl field).length ≤ word.length := by
            rw [hb1, hb2]
            simp
            omega
          show _ + (_ + 1) * 1 ≤ _
          omega
        -- the test
        have en : cutS (S l) (some ((a : Int) + (size : Int))) (some ((a : Int) + (size : Int) + 1)) = S (((l.drop a).drop size).take 1) := by
          have z := cut_nn l (a + size) (a + size + 1)
          rw [show a + size + 1 - (a + size) = 1 by omega] at z
          rw [List.drop_drop]
          exact z
        have hb5 : field.length ≤ 1000000 := by omega
        refine ⟨.str (S field), rfl, field, rfl, hb5, .str (S word), rfl, rfl, _, rfl, ?_⟩
        rw [dec_S]
        refine ite2 (fun hne => ?_) (fun hne => ?_)
        · have hne' : K85.ft field ≠ word := by simpa using hne
          refine iteT ?_
          exact non_ H2 (.refl _) (FA.bad1 hne')
        have heq : K85.ft field = word := by simpa using hne
        refine ⟨.str (S l), rfl, _, rfl, _, rfl, _, _, rfl, rfl, _, rfl, _, rfl, _, rfl, _, _, rfl, rfl, _, _, rfl, rfl, _, rfl, S l, rfl, sz (by omega), ?_⟩
        rw [en]
        refine ⟨sz (show 2 ≤ 10000000 by decide), fun p hp' => ⟨p, _, rfl, .inr (tupO upd_same), rfl, rfl, _, rfl, ?_⟩⟩
        rw [show (if true = true then !inV (.str (S (((l.drop a).drop size).take 1))) [.str (Str.ofString ""), .str (Str.ofString ",")] else inV (.str (S (((l.drop a).drop size).take 1))) [.str (Str.ofString ""), .str (Str.ofString ",")]) = !(decide (((l.drop a).drop size).take 1 = []) || decide (((l.drop a).drop size).take 1 = [44])) from congrArg (!·) in_end]
        have e3 := Ex.new (T := T) (M := []) (o := .tup [.str (Str.ofString ""), .str (Str.ofString ",")]) hp'
        refine ite2 (fun hne => ?_) (fun hne => ?_)
        · have h2 : ((l.drop a).drop size).take 1 ≠ [] ∧ ((l.drop a).drop size).take 1 ≠ [44] := by simpa using hne
          exact non_ _ e3 (FA.bad2 h2.1 h2.2)
        have hor : ((l.drop a).drop size).take 1 = [] ∨ ((l.drop a).drop size).take 1 = [44] := by
          by_cases z : ((l.drop a).drop size).take 1 = []
          · exact .inl z
          · by_cases z2 : ((l.drop a).drop size).take 1 = [44]
            · exact .inr z2
            · rw [decide_eq_false z, decide_eq_false z2] at hne
              exact absurd rfl hne
        have eD3 : (upd H2 p (.tup [.str (Str.ofString ""), .str (Str.ofString ",")])) d = some (.lst (fs.map fun f => V.str (S f))) := by
          rw [upd_ne (ne_of_none eD hp')]
          exact eD
        refine ⟨.ref d, rfl, .inl ⟨rfl, _, lstO eD3⟩, .str (S field), rfl, d, _, _, rfl, rfl, eD3, szl (by rw [List.length_map]; omega), ?_⟩
        refine ⟨_, rfl, _, rfl, _, _, rfl, rfl, _, _, rfl, rfl, l.length + 1 - (a + (size + 1)), by omega, a + (size + 1), fs ++ [field], _, _, _, _, rfl, (e2.trans e3).mut hdH, ?_, by omega, by simp; omega, fun hle' => ?_, fun he => ?_, rfl⟩
        · rw [upd_same, List.map_append]
          rfl
        · rcases hor with z | z
          · have z2 : (l.drop a).drop size = [] := by
              cases h : (l.drop a).drop size with
              | nil => rfl
              | cons c r =>
                rw [h] at z
                cases z
            have := congrArg List.length z2
            rw [List.length_drop, List.length_drop] at this
            simp at this
            omega
          · obtain ⟨r, hr⟩ : ∃ r, (l.drop a).drop size = 44 :: r := by
              cases h : (l.drop a).drop size with
              | nil =>
                rw [h] at z
                cases z
              | cons c r =>
                rw [h] at z
                have z2 : [c] = [44] := z
                exact ⟨r, by rw [(List.cons.inj z2).1]⟩
            have hd2 : l.drop (a + (size + 1)) = r := by
              have z2 : l.drop (a + (size + 1)) = ((l.drop a).drop size).drop 1 := by
                rw [List.drop_drop, List.drop_drop]
              rw [z2, hr]
              rfl
            rw [hd2, map_snoc, ← FA.more heq r hr]
            exact hP'
        · have z2 : (l.drop a).drop size = [] := by
            rw [List.drop_drop]
            exact List.drop_of_length_le (by omega)
          rw [← hP', FA.last heq z2]
          rfl
    · have hge : a = l.length + 1 := by
        have z : ¬ ((a : Int) ≤ ((S l).length : Int)) := fun z => hc (decide_eq_true z)
        rw [hL] at z
        omega
      refine ⟨_, rfl, d, _, rfl, .inl ⟨lstO eD, fun p hp' => qS fs (hE hge) _ _ (e2.trans (.new hp')) ⟨p, rfl, tupO upd_same⟩⟩⟩
end
end W85

set_option Elab.async false
set_option linter.all false
set_option maxRecDepth 100000
set_option maxHeartbeats 8000000
namespace W85
open PySem PySem.Spec PyProof.Rows L2 H85 CwR
open TL (tl)
open K85 (Md P)
/-! ### lines of a text -/
theorem split_nl (t : List Nat) : Txt.split (S t) (S [10]) = ((K85.sp t).1 ++ [(K85.sp t).2]).map S := by
  obtain ⟨h1, h2, h3⟩ := K85.sp_spec t
  have e : TL.joinL [10] ((K85.sp t).1 ++ [(K85.sp t).2]) = t := by
    have key : ∀ (ini : List (List Nat)) (last : List Nat), TL.joinL [10] (ini ++ [last]) = K85.glue ini last := by
      intro ini last
      induction ini with
      | nil => rfl
      | cons l r ih =>
        cases r with
        | nil =>
          show l ++ ([10] ++ last) = K85.glue [l] last
          simp [K85.glue]
        | cons k r2 =>
          show l ++ ([10] ++ TL.joinL [10] ((k :: r2) ++ [last])) = _
          rw [ih]
          simp [K85.glue]
    rw [key]
    exact h1
  have e2 := SX.split_S (a := t) (b := [10]) (by simp) (by decide)
  have e3 : TL.spl [10] 0 [] t = (K85.sp t).1 ++ [(K85.sp t).2] := by
    have z := TL.spl_join (s := 10) (S := []) (parts := (K85.sp t).1 ++ [(K85.sp t).2]) (by simp) (fun p hp => by
      rcases List.mem_append.mp hp with q | q
      · exact h2 p q
      · rw [List.mem_singleton.mp q]
        exact h3)
    rw [e] at z
    exact z
  rw [e3] at e2
  exact e2
theorem cut_ini (xs : List V) (y : V) : cutV (xs ++ [y]) none (some (-1)) = xs := by
  have hl : (xs ++ [y]).length = xs.length + 1 := by simp
  show ((xs ++ [y]).drop (HT.sIx (xs ++ [y]).length 0 none)).take (HT.sIx (xs ++ [y]).length (xs ++ [y]).length (some (-1)) - HT.sIx (xs ++ [y]).length 0 none) = xs
  have e : HT.sIx (xs ++ [y]).length (xs ++ [y]).length (some (-1)) = xs.length := by
    rw [hl]
    show (if (-1 : Int) < 0 then ((-1 : Int) + ((xs.length + 1 : Nat) : Int)).toNat else min (-1 : Int).toNat (xs.length + 1)) = _
    rw [if_pos (by decide)]
    omega
  rw [e, HT.sIx_none, List.drop_zero, Nat.sub_zero, List.take_left']
  rfl
theorem Ex.atL {T a : Addr} {H : Hp} {xs : List V} {o : HO} (h : H a = some (.lst xs)) : Ex T [a] H (upd H a o) := .at_ h (by simp) (fun _ z => by cases z) (fun _ _ z => by cases z) (fun _ z => by cases z)
/-! ### a def that may raise -/
section
variable {P' : Program} {w : World} {K : PySem.W.Frag} {mg : Str → Option Value} {base : Heap} {T C fI cda cc : Addr}
def Cx_ (P : Program) (w : World) (K : PySem.W.Frag) (mg : Str → Option Value) (base : Heap) (k : Nat) (x : Str) (sp : Sp) : Prop :=
  ∃ (f : Addr) (fd : FuncData) (ps : List Str), FnOk P w K mg base (L2.CX P w) k f fd ps sp ∧ mg x = some (.ref f) ∧ PySem.W.keepIn K (.ref f) = true ∧ Binds K fd ps []
theorem calX {x : Str} {st : Stmt} {N ps : List Str} {k : Nat} {sp : Sp} (D : DefAt K mg x st) (Sc : FnScope N ps (defScope st))
    (hb : ∀ (kV doc pm : Value) (an : Option Addr) (cdv ct : Value) (us : List Value), us.length = ps.length → bindArgs (PySem.W.fnOf x x (defArgs st) (defBody st) (defScope st) .none kV doc pm an cdv ct) ⟨us, []⟩ = pure (ps.zip us))
    (len : ∀ vs H Q E, sp vs H Q E → vs.length = ps.length)
    (hbody : ∀ (f : Addr) (cdv : Value) (A : Around) (outer : List Env) (s : Shared) (H : Hp) (vs : List V) (Q : VK) (E : XK), Room k (A.deeper (envOfC x (defScope st) s.heap.objs.size f cdv)) → sp vs H Q E →
      ∃ t, PSs (cxOf (L2.CX P' w) P' w K mg base N x (defScope st) f cdv A outer s H E) (defBody st) t ∧ t { nx := fun _ H' => Q .non H', rt := Q } (start N vs) H) : Cx_ P' w K mg base (k + 1) x sp := by
  obtain ⟨f, fd, F, hm⟩ := D
  refine ⟨f, fd, ps, F.ok Sc len fun cdv A outer s H vs Q E hr h => ?_, hm, F.kp, F.bindsN hb⟩
  exact hbody f cdv A outer s H vs Q E hr h
def spRead (K : PySem.W.Frag) (T C : Addr) : Sp := fun vs H Q E => ∃ t : List Nat, vs = [.str (S t)] ∧ t.length ≤ 99000 ∧ GxR.TabG H T ∧
  (∀ n, K85.read t = .error n → ∀ H' d, Ex T [] H H' → H' d = some (.xd [(("line" : Str), .int (n : Int))]) → E (.ref C) (some d) H') ∧ (∀ rows, K85.read t = .ok rows → ∀ H' v, Ex T [] H H' → Rows K H' v rows → Q v H')
theorem sc10 : FnScope ["text", "lines", "rows", "at", "line", "fields"] ["text"] (defScope (topS 10)) := ⟨rfl, rfl, rfl, by decide +kernel, rfl, by decide +kernel, by decide +kernel⟩
theorem small_log {n : Nat} (h : n ≤ 1000000) : (n : Int).natAbs.log2 < 1920 := by
  have e : (n : Int).natAbs = n := rfl
  rw [e]
  have h2 : n < 2 ^ 1920 := Nat.lt_of_le_of_lt h (by decide +kernel)
  by_cases hz : n = 0
  · rw [hz]
    decide
  · exact (Nat.log2_lt hz).mpr h2
/-- the rows that are read so far -/
theorem Lines.to {H : Hp} {vs : List V} {rows : List (List (List Nat))} {p : Addr} (h : Lines K H vs rows) (hp : H p = some (.tup vs)) : Rows K H (.ref p) rows := ⟨p, vs, rfl, tupO hp, h⟩
theorem ok_read (D : DefAt K mg "read_commas" (topS 10)) (BT : PySem.BadX.BadTxt P' K mg C fI cda cc) (gC : mg "BadLine" = some (.ref C)) (c9 : Cf P' w K mg base 4 "fields_of" (spFieldsOf K T))
    (mlen : mg "len" = none) (menum : mg "enumerate" = none) (mtup : mg "tuple" = none) : Cx_ P' w K mg base 5 "read_commas" (spRead K T C) := by
  refine calX D sc10 (fun _ _ _ _ _ _ us hl => match us, hl with | [_], _ => rfl) (fun vs H Q E h => ?_) (fun f cdv A outer s H vs Q E hr h => ?_)
  · obtain ⟨t, rfl, _⟩ := h
    rfl
  · obtain ⟨t, rfl, ht, hT, qE, qS⟩ := h
    refine ⟨_, pss_cons (ps_set (i := 1) sc10.nd rfl (.inl rfl) (pe_split (pv 0) pe_str))
      (pss_cons (ps_set (i := 2) sc10.nd rfl (.inl rfl) (pe_lst pa_nil))
      (pss_cons (ps_for (passes_of rfl) rfl (pi_enum (by rfl) menum (pa_cons (pe_slice sl_list (pv 1) po_none (po_some (pe_un un_neg pe_int))) pa_nil)) (pg_tup rfl (pgs_cons (pg_name (i := 3) sc10.nd rfl (.inl rfl)) (pgs_cons (pg_name (i := 4) sc10.nd rfl (.inl rfl)) pgs_nil)))
        (pss_cons (ps_set (i := 5) sc10.nd rfl (.inl rfl) (pcf c9 hr (by decide) (pa_cons (pv 4) pa_nil)))
        (pss_cons (ps_if (pt_cmpR op_isN (pv 5) pe_non (nomark _)) (pss_one (ps_raiseBad rfl BT gC hr (takes_of rfl rfl rfl rfl) (pa_cons (pe_op op_add (pv 3) pe_int) pa_nil))) pss_nil)
        (pss_one (ps_expr (pe_bm PySem.F.plainAttrs_list PySem.F.slot_list_append PySem.F.type_list_append mt_append (pv 2) (pa_cons (pv 5) pa_nil)))))))
      (pss_cons (ps_if (pt_cmpR op_ne (pe_ix ix_list (pv 1) (pe_un un_neg pe_int) (fun _ _ => rfl)) pe_str (nomark _)) (pss_one (ps_raiseBad rfl BT gC hr (takes_of rfl rfl rfl rfl) (pa_cons (pe_callB call_len_seq (by rfl) mlen PySem.boot_len (pa_cons (pv 1) pa_nil)) pa_nil))) pss_nil)
      (pss_one (ps_ret (pe_callTy call_tuple_of (by rfl) mtup PyProof.Rows.boot_tuple (pa_cons (pv 2) pa_nil)))))))
      , ?_⟩
    obtain ⟨ini, last, hsp⟩ : ∃ ini last, K85.sp t = (ini, last) := ⟨_, _, rfl⟩
    have hrd : K85.read t = K85.rd ini last := by
      unfold K85.read
      rw [hsp]
    have hgl := K85.glue_len ini last
    have hg1 : K85.glue ini last = t := by
      have z := (K85.sp_spec t).1
      rw [hsp] at z
      exact z
    rw [hg1] at hgl
    obtain ⟨hg1, hg2, hg3⟩ := hgl
    have hspl : (Txt.split (S t) (Str.ofString "\n")).map V.str = (ini.map fun l => V.str (S l)) ++ [V.str (S last)] := by
      rw [newl, split_nl, hsp]
      simp
    refine ⟨.str (S t), rfl, ⟨_, rfl⟩, _, _, rfl, rfl, by decide +kernel, sz (by rw [len_S]; omega), fun p1 hp1 => ?_⟩
    rw [hspl]
    refine ⟨sz (Nat.zero_le _), fun p2 hp2 => ?_⟩
    have e1 : Ex T [] H (upd H p1 (.lst ((ini.map fun l => V.str (S l)) ++ [V.str (S last)]))) := .new hp1
    have hp2' := e1.back hp2
    have e2 := e1.trans (.new (T := T) (M := []) (o := .lst []) hp2)
    have hL1 : (upd (upd H p1 (.lst ((ini.map fun l => V.str (S l)) ++ [V.str (S last)]))) p2 (.lst [])) p1 = some (.lst ((ini.map fun l => V.str (S l)) ++ [V.str (S last)])) := by
      rw [upd_ne (ne_of_none upd_same hp2)]
      exact upd_same
    have h12 : p1 ≠ p2 := ne_of_none upd_same hp2
    refine ⟨_, rfl, _, rfl, _, rfl, p1, _, rfl, lstO hL1, fun p3 hp3 => ?_⟩
    rw [cut_ini]
    have hp3' := e2.back hp3
    have h32 : p2 ≠ p3 := ne_of_none upd_same hp3
    have h31 : p1 ≠ p3 := ne_of_none hL1 hp3
    have e3 := e2.trans (.new (T := T) (M := []) (o := .lst (ini.map fun l => V.str (S l))) hp3)
    have hlen3 : (ini.map fun l => V.str (S l)).length = ini.length := by rw [List.length_map]
    refine ⟨p3, _, rfl, lstO upd_same, for_it (walk_enum (K := K) (a := p3) (xs := ini.map fun l => V.str (S l))) (fun i σ H' => ∃ (x3 x4 x5 : Option V) (vs : List V) (acc : List (List (List Nat))), σ = [some (.str (S t)), some (.ref p1), some (.ref p2), x3, x4, x5] ∧ Ex T [] H H' ∧
        H' p1 = some (.lst ((ini.map fun l => V.str (S l)) ++ [V.str (S last)])) ∧ H' p2 = some (.lst vs) ∧ H' p3 = some (.lst (ini.map fun l => V.str (S l))) ∧ Lines K H' vs acc ∧ vs.length = i ∧ K85.rdA i acc (ini.drop i) = K85.rdA 0 [] ini)
      ⟨none, none, none, [], [], rfl, e3, by rw [upd_ne h31]; exact hL1, by rw [upd_ne h32]; exact upd_same, upd_same, .nil, rfl, rfl⟩ (fun i σ H' _ h => ?_) ?_ ?_⟩
    · obtain ⟨_, _, _, _, _, _, _, _, _, h3, _⟩ := h
      exact lstO h3
    · rintro i x σ H1 H2 hi ⟨x3, x4, x5, vs, acc, rfl, f1, fL1, fL2, fL3, hl, hvs, hst⟩ ⟨p4, y1, y2, rfl, hp4, rfl, hy1, hy2⟩
      have hy1' : V.int (i : Nat) = y1 := Option.some.inj hy1
      subst hy1'
      have hy3 : (ini.map fun l => V.str (S l))[i]? = some y2 := hy2
      rw [List.getElem?_map] at hy3
      cases hg : ini[i]? with
      | none =>
        rw [hg] at hy3
        cases hy3
      | some l =>
        rw [hg] at hy3
        have hy2' : V.str (S l) = y2 := Option.some.inj hy3
        subst hy2'
        have hll := hg3 l (List.mem_of_getElem? hg)
        rw [hlen3] at hi
        have f2 := f1.trans (.new (T := T) (M := []) (o := .tup [.int (i : Nat), .str (S l)]) hp4)
        refine ⟨p4, _, rfl, tupO upd_same, rfl, _, _, rfl, _, _, rfl, rfl, .str (S l), rfl, l, rfl, by omega, f2.tab hT, fun hn H3 f3 => ?_, fun fs hfs H3 v f3 hv => ?_⟩
        · refine ⟨_, rfl, rfl, _, rfl, iteT ?_⟩
          refine ⟨_, rfl, _, _, rfl, rfl, (i : Int) + 1, rfl, small_log (n := i + 1) (by omega), fun d hd => ?_⟩
          refine qE (i + 1) ?_ _ d ((f2.trans f3).trans (.new hd)) upd_same
          have z := K85.rdA_none (k := i) (acc := acc) hg hn
          rw [hrd]
          unfold K85.rd
          rw [← hst, z]
        · have g1 : H3 p1 = some (.lst ((ini.map fun l => V.str (S l)) ++ [V.str (S last)])) := f3.keep _ _ (by simp) ntL (by rw [upd_ne (ne_of_none fL1 hp4)]; exact fL1)
          have g2 : H3 p2 = some (.lst vs) := f3.keep _ _ (by simp) ntL (by rw [upd_ne (ne_of_none fL2 hp4)]; exact fL2)
          have g3 : H3 p3 = some (.lst (ini.map fun l => V.str (S l))) := f3.keep _ _ (by simp) ntL (by rw [upd_ne (ne_of_none fL3 hp4)]; exact fL3)
          have f4 := f2.trans f3
          have f5 : Ex T [] H (upd H3 p2 (.lst (vs ++ [v]))) := f4.mut hp2'
          obtain ⟨q, rfl, hq⟩ := hv
          refine ⟨_, rfl, rfl, _, rfl, iteF ?_⟩
          refine ⟨_, rfl, .inl ⟨rfl, _, lstO g2⟩, _, rfl, _, _, _, rfl, rfl, g2, szl (by omega), ?_⟩
          refine ⟨_, _, _, _, acc ++ [fs], rfl, f5, by rw [upd_ne h12]; exact g1, upd_same, by rw [upd_ne (Ne.symm h32)]; exact g3, ?_, by simp [hvs], ?_⟩
          · exact Lines.snoc ((hl.mono ((Ex.new (T := T) (M := []) hp4).trans f3)).mono (Ex.atL (T := T) g2)) (Line.mono (Ex.atL (T := T) g2) ⟨q, rfl, hq⟩)
          · rw [← K85.rdA_some hg hfs]
            exact hst
    · rintro σ H1 ⟨x3, x4, x5, vs, acc, rfl, f1, fL1, fL2, fL3, hl, hvs, hst⟩
      rw [hlen3, List.drop_length] at hst
      have hst' : Except.ok acc = K85.rdA 0 [] ini := hst
      refine ⟨_, rfl, _, rfl, p1, _, _, _, rfl, rfl, lstO fL1, atI_last _ _, ?_⟩
      refine ⟨rfl, _, rfl, ?_⟩
      rw [nosign, dec_S]
      refine ite2 (fun hne => ?_) (fun hne => ?_)
      · have hne' : last ≠ [] := by simpa using hne
        refine ⟨_, rfl, p1, _, rfl, .inl (lstO fL1), ((ini.length + 1 : Nat) : Int), ?_, small_log (by omega), fun d hd => ?_⟩
        · rw [List.length_append, List.length_map]
          rfl
        · refine qE (ini.length + 1) ?_ _ d (f1.trans (.new hd)) ?_
          · rw [hrd]
            unfold K85.rd
            rw [← hst']
            exact if_neg hne'
          · rw [upd_same]
      · have hne' : last = [] := by simpa using hne
        refine ⟨_, rfl, p2, _, rfl, .inl ⟨lstO fL2, fun p5 hp5 => qS acc ?_ _ _ (f1.trans (.new hp5)) ((hl.mono (.new (T := T) (M := []) hp5)).to upd_same)⟩⟩
        rw [hrd]
        unfold K85.rd
        rw [← hst']
        exact if_pos hne'
end
end W85

set_option Elab.async false
set_option linter.all false
set_option maxRecDepth 100000
set_option maxHeartbeats 8000000
namespace W85
open PySem PySem.Spec PyProof.Rows L2 H85 CwR
open TL (tl)
open K85 (Md P)
section
variable {P' : Program} {w : World} {K : PySem.W.Frag} {mg : Str → Option Value} {base : Heap} {T C fI cda cc : Addr}
def spLRead (K : PySem.W.Frag) (T : Addr) : Sp := fun vs H Q _ => ∃ t : List Nat, vs = [.str (S t)] ∧ t.length ≤ 99000 ∧
  (∀ n, K85.read t = .error n → ∀ H', Ex T [] H H' → Q (.int (n : Int)) H') ∧ (∀ rows, K85.read t = .ok rows → ∀ H' v, Ex T [] H H' → Rows K H' v rows → Q v H')
theorem sc20 : FnScope ["text", "lines", "told", "at", "fields"] ["text"] (defScope (topS 20)) := ⟨rfl, rfl, rfl, by decide +kernel, rfl, by decide +kernel, by decide +kernel⟩
/-- told + (fields,) -/
theorem cat_rows {i j : Nat} {σ : L2.St} {v u : V} {acc : List (List (List Nat))} {fs : List (List Nat)} {H : Hp} {Q : VK} (hi : σ[i]? = some (some v)) (hj : σ[j]? = some (some u)) (hR : Rows K H v acc) (hL : Line K H u fs) (hz : acc.length ≤ 1000000)
    (q : ∀ v' H', Ex T [] H H' → Rows K H' v' (acc ++ [fs]) → Q v' H') : tOp (rCatA K) (tVar i) (tTup (tCons (tVar j) tNil)) σ H Q := by
  obtain ⟨a, vs, rfl, hS, hl⟩ := hR
  have hn := hl.len
  refine ⟨_, hi, u, hj, sz (show 1 ≤ 10000000 by decide), fun p hp => ⟨a, p, _, _, rfl, rfl, (Ex.new (T := T) (M := []) hp).tupS hS, tupO upd_same, sz ?_, fun e => ?_, fun _ e => (by cases e), fun _ _ p3 hp3 => ?_⟩⟩
  · show vs.length + 1 ≤ _
    omega
  · subst e
    cases hl
    exact q _ _ (.new hp) ⟨p, _, rfl, tupO upd_same, .cons (hL.mono (.new (T := T) (M := []) hp)) .nil⟩
  · have e2 := (Ex.new (T := T) (M := []) hp).trans (.new (o := .tup (vs ++ [u])) hp3)
    exact q _ _ e2 ⟨p3, _, rfl, tupO upd_same, (hl.mono e2).snoc (hL.mono e2)⟩
theorem ok_lread (D : DefAt K mg "_law_read" (topS 20)) (c19 : Cf P' w K mg base 2 "_law_fields" (spFields K T)) (mlen : mg "len" = none) (mrange : mg "range" = none) : Cf P' w K mg base 3 "_law_read" (spLRead K T) := by
  refine cal D sc20 (fun _ _ _ _ _ _ us hl => match us, hl with | [_], _ => rfl) (fun vs H Q E h => ?_) (fun f cdv A outer s H vs Q E hr h => ?_)
  · obtain ⟨t, rfl, _⟩ := h
    rfl
  · obtain ⟨t, rfl, ht, qE, qS⟩ := h
    refine ⟨_, pss_cons (ps_set (i := 1) sc20.nd rfl (.inl rfl) (pe_split (pv 0) pe_str))
      (pss_cons (ps_set (i := 2) sc20.nd rfl (.inl rfl) (pe_tup pa_nil))
      (pss_cons (ps_for PassesOwn.never rfl (pi_range1 rfl mrange (pa_cons (pe_op op_sub (pe_callB call_len_seq (by rfl) mlen PySem.boot_len (pa_cons (pv 1) pa_nil)) pe_int) pa_nil)) (pg_name (i := 3) sc20.nd rfl (.inl rfl))
        (pss_cons (ps_set (i := 4) sc20.nd rfl (.inl rfl) (pcf c19 hr (by decide) (pa_cons (pe_ix ix_list (pv 1) (pv 3) (fun _ _ => rfl)) pa_nil)))
        (pss_cons (ps_if (pt_cmpR op_isN (pv 4) pe_non (nomark _)) (pss_one (ps_ret (pe_op op_add (pv 3) pe_int))) pss_nil)
        (pss_one (ps_set (i := 2) sc20.nd rfl (.inl rfl) (pe_op op_catA (pv 2) (pe_tup (pa_cons (pv 4) pa_nil))))))))
      (pss_one (ps_ret (pe_ifExp (pt_cmpR op_eq (pe_ix ix_list (pv 1) (pe_un un_neg pe_int) (fun _ _ => rfl)) pe_str (nomark _)) (pv 2) (pe_callB call_len_seq (by rfl) mlen PySem.boot_len (pa_cons (pv 1) pa_nil))))))), ?_⟩
    obtain ⟨ini, last, hsp⟩ : ∃ ini last, K85.sp t = (ini, last) := ⟨_, _, rfl⟩
    have hrd : K85.read t = K85.rd ini last := by
      unfold K85.read
      rw [hsp]
    have hgl := K85.glue_len ini last
    have hg1 : K85.glue ini last = t := by
      have z := (K85.sp_spec t).1
      rw [hsp] at z
      exact z
    rw [hg1] at hgl
    obtain ⟨hg1, hg2, hg3⟩ := hgl
    have hspl : (Txt.split (S t) (Str.ofString "\n")).map V.str = (ini.map fun l => V.str (S l)) ++ [V.str (S last)] := by
      rw [newl, split_nl, hsp]
      simp
    refine ⟨.str (S t), rfl, ⟨_, rfl⟩, _, _, rfl, rfl, by decide +kernel, sz (by rw [len_S]; omega), fun p1 hp1 => ?_⟩
    rw [hspl]
    refine ⟨sz (Nat.zero_le _), fun p2 hp2 => ?_⟩
    have e1 : Ex T [] H (upd H p1 (.lst ((ini.map fun l => V.str (S l)) ++ [V.str (S last)]))) := .new hp1
    have e2 := e1.trans (.new (T := T) (M := []) (o := .tup []) hp2)
    have hL1 : (upd (upd H p1 (.lst ((ini.map fun l => V.str (S l)) ++ [V.str (S last)]))) p2 (.tup [])) p1 = some (.lst ((ini.map fun l => V.str (S l)) ++ [V.str (S last)])) := by
      rw [upd_ne (ne_of_none upd_same hp2)]
      exact upd_same
    have hlen : ((ini.map fun l => V.str (S l)) ++ [V.str (S last)]).length = ini.length + 1 := by simp
    refine ⟨_, rfl, p1, _, rfl, .inl (lstO hL1), _, _, rfl, rfl, _, rfl, ?_, ?_, for_it (walk_range (lo := 0)) (fun i σ H' => ∃ (x3 x4 : Option V) (v : V) (acc : List (List (List Nat))), σ = [some (.str (S t)), some (.ref p1), some v, x3, x4] ∧ Ex T [] H H' ∧
        H' p1 = some (.lst ((ini.map fun l => V.str (S l)) ++ [V.str (S last)])) ∧ Rows K H' v acc ∧ acc.length = i ∧ K85.rdA i acc (ini.drop i) = K85.rdA 0 [] ini)
      ⟨none, none, .ref p2, [], rfl, e2, hL1, ⟨p2, [], rfl, tupO upd_same, .nil⟩, rfl, rfl⟩ (fun _ _ _ _ _ => trivial) ?_ ?_⟩
    · rw [hlen]
      omega
    · rw [hlen]
      have : (2 : Int) ^ 62 = 4611686018427387904 := by decide
      omega
    · rintro i x σ H1 H2 hi ⟨x3, x4, v, acc, rfl, f1, fL1, hR, hvs, hst⟩ ⟨rfl, rfl⟩
      rw [hlen] at hi
      have hi' : i < ini.length := by omega
      have hg : ini[i]? = some ini[i] := List.getElem?_eq_getElem hi'
      have hll := hg3 _ (List.getElem_mem hi')
      have hat : atI ((ini.map fun l => V.str (S l)) ++ [V.str (S last)]) ((0 : Int) + (i : Int)) = some (V.str (S ini[i])) := by
        rw [Int.zero_add]
        refine atI_nat (j := i) ?_
        rw [List.getElem?_append_left (by rw [List.length_map]; exact hi'), List.getElem?_map, hg]
        rfl
      refine ⟨_, rfl, _, rfl, p1, _, _, _, rfl, rfl, lstO fL1, hat, ini[i], rfl, by omega, fun hn H3 f3 => ?_, fun fs hfs H3 u f3 hu => ?_⟩
      · refine ⟨_, rfl, rfl, _, rfl, iteT ?_⟩
        refine ⟨_, rfl, _, _, rfl, rfl, ?_⟩
        have z := qE (i + 1) (by
          rw [hrd]
          unfold K85.rd
          rw [← hst, K85.rdA_none (k := i) (acc := acc) hg hn]) _ (f1.trans f3)
        have e : (0 : Int) + (i : Int) + 1 = ((i + 1 : Nat) : Int) := by omega
        rw [← e] at z
        exact z
      · obtain ⟨q, rfl, hq⟩ := hu
        refine ⟨_, rfl, rfl, _, rfl, iteF ?_⟩
        refine cat_rows (T := T) rfl rfl (hR.mono f3) ⟨q, rfl, hq⟩ (by omega) fun v' H4 f4 hR' => ?_
        refine ⟨_, _, v', acc ++ [fs], rfl, (f1.trans f3).trans f4, (f3.trans f4).keep _ _ (by simp) ntL fL1, hR', by simp [hvs], ?_⟩
        rw [← K85.rdA_some hg hfs]
        exact hst
    · rintro σ H1 ⟨x3, x4, v, acc, rfl, f1, fL1, hR, hvs, hst⟩
      have hn : ((((ini.map fun l => V.str (S l)) ++ [V.str (S last)]).length : Int) - 1).toNat = ini.length := by
        rw [hlen]
        omega
      rw [hn, List.drop_length] at hst
      have hst' : Except.ok acc = K85.rdA 0 [] ini := hst
      refine ⟨_, rfl, _, rfl, p1, _, _, _, rfl, rfl, lstO fL1, atI_last _ _, ?_⟩
      refine ⟨rfl, _, rfl, ?_⟩
      rw [nosign, dec_S]
      refine ite2 (fun he => ?_) (fun he => ?_)
      · have he' : last = [] := by simpa using he
        refine ⟨_, rfl, qS acc ?_ _ _ f1 hR⟩
        rw [hrd]
        unfold K85.rd
        rw [← hst']
        exact if_pos he'
      · have he' : last ≠ [] := by simpa using he
        refine ⟨_, rfl, p1, _, rfl, .inl (lstO fL1), ?_⟩
        have z := qE (ini.length + 1) (by
          rw [hrd]
          unfold K85.rd
          rw [← hst']
          exact if_neg he') _ f1
        rw [hlen]
        exact z
end
end W85

set_option Elab.async false
set_option linter.all false
set_option maxRecDepth 100000
set_option maxHeartbeats 8000000
namespace W85
open PySem PySem.Spec PyProof.Rows L2 H85 CwR
open TL (tl)
section
variable {P' : Program} {w : World} {K : PySem.W.Frag} {mg : Str → Option Value} {base : Heap} {T C PEa fI cda cc : Addr}
theorem pcfS {X : Cx} {x : Str} {k j : Nat} {sp : Sp} {e : Expr} {es : List Expr} {t : TA} {W : WX} {p pos : Pos} (c : Cx_ X.prog X.w X.K X.mg X.base k x sp) (hr : Room j X.A) (hk : k ≤ j) (tk : Takes X W) (ha : PA X (e :: es) t) (hg : Gl X x := by rfl)
    (he : starEach (e :: es) X.env = (false, eval e X.env) :: starEach es X.env := by rfl) (hpl : (backTo pos (starEach es X.env)).any (·.1) = false := by rfl) (hd : (x == ("__debug__" : Str)) = false := by decide) : PE X (.Call (.Name x p) (e :: es) [] pos) (tCallS sp (WE W) t) := by
  obtain ⟨f, fd, ps, F, hm, kp, b⟩ := c
  exact pe_callS F (hr.mono hk) hg hm kp b (fun σ => passAt tk σ) ha hd he hpl
def spTold (K : PySem.W.Frag) (T : Addr) : Sp := fun vs H Q _ => ∃ t : List Nat, vs = [.str (S t)] ∧ t.length ≤ 99000 ∧ GxR.TabG H T ∧
  (∀ n, K85.read t = .error n → ∀ H' p, Ex T [] H H' → H' p = some (.tup [.str (Str.ofString "bad"), .int (n : Int)]) → Q (.ref p) H') ∧
  (∀ rows, K85.read t = .ok rows → ∀ H' p v, Ex T [] H H' → H' p = some (.tup [.str (Str.ofString "told"), v]) → Rows K H' v rows → Q (.ref p) H')
theorem sc21 : FnScope ["text", "e"] ["text"] (defScope (topS 21)) := ⟨rfl, rfl, rfl, by decide +kernel, rfl, by decide +kernel, by decide +kernel⟩
theorem ok_told (D : DefAt K mg "_law_told" (topS 21)) (B : L2.BadIs K C PEa) (eP : PySem.W.exmOne K (.ref C) (.ref C) = some true) (gC : mg "BadLine" = some (.ref C)) (gP : mg "PlaidworkError" = some (.ref PEa)) (c10 : Cx_ P' w K mg base 5 "read_commas" (spRead K T C))
    (misi : mg "isinstance" = none) (mval : mg "ValueError" = none) : Cf P' w K mg base 6 "_law_told" (spTold K T) := by
  refine cal D sc21 (fun _ _ _ _ _ _ us hl => match us, hl with | [_], _ => rfl) (fun vs H Q E h => ?_) (fun f cdv A outer s H vs Q E hr h => ?_)
  · obtain ⟨t, rfl, _⟩ := h
    rfl
  · obtain ⟨t, rfl, ht, hT, qE, qS⟩ := h
    refine ⟨_, pss_one (ps_try_as (i := 1) (Wout := fun _ _ _ _ => False) rfl rfl sc21.nd rfl rfl ⟨rfl, by decide, Or.inl gC⟩ takes0
      (fun W pn xe tk _ => pss_one (ps_ret (pe_tup (pa_cons pe_str (pa_cons (pcfS c10 hr (by decide) tk (pa_cons (pv 0) pa_nil)) pa_nil)))))
      (fun a oe cls d pn hz hf => pss_one (ps_ret (pe_tup (pa_cons (pe_ifExp (PW.pt (pw_and (pt_val (pe_callB (call_isOwnBad B hz hf) (by rfl) misi (by decide +kernel) (pa_cons (pv 1) (pa_cons (pe_glob (v := .ref PEa) rfl gP rfl) pa_nil))))
        (pw_and1 (pt_val (pe_callB (call_isOwnBad B hz hf) (by rfl) misi (by decide +kernel) (pa_cons (pv 1) (pa_cons (pe_bltn (v := .ty "ValueError") (u := .type "ValueError") rfl mval (by decide +kernel) rfl) pa_nil))))))) pe_str pe_str) (pa_cons (pe_byBad B hz hf (pv 1)) pa_nil)))))), ?_⟩
    refine ⟨.str (S t), rfl, t, rfl, ht, hT, fun n hn H1 d e1 hd => ⟨true, eP, fun _ a ha => ?_, fun z => (by cases z)⟩, fun rows hr H1 v e1 hv => ⟨sz (show 2 ≤ 10000000 by decide), fun p hp => qS rows hr _ p v (e1.trans (.new hp)) upd_same (hv.mono (.new (T := T) (M := []) hp))⟩⟩
    refine ⟨_, rfl, _, _, true, d, _, rfl, rfl, rfl, hd, (fun u z => z), B.kP, true, rfl, iteT ?_⟩
    refine ⟨_, rfl, _, _, true, d, _, rfl, rfl, rfl, hd, (fun u z => z), B.kV, true, rfl, iteT ?_⟩
    refine ⟨_, rfl, rfl, rfl, d, _, rfl, hd, sz (show 2 ≤ 10000000 by decide), fun p hp => qE n hn _ p (e1.trans (.new hp)) upd_same⟩
end
end W85

set_option Elab.async false
set_option linter.all false
set_option maxRecDepth 100000
set_option maxHeartbeats 8000000
namespace W85
open PySem PySem.Spec PyProof.Rows L2 H85 CwR
open TL (tl)
section
variable {P' : Program} {w : World} {K : PySem.W.Frag} {mg : Str → Option Value} {base : Heap} {T C PEa fI cda cc : Addr}
def spIsInt : Sp := fun vs H Q _ => ∃ i : Int, vs = [.int i] ∧ Q (.bl true) H
theorem sc14 : FnScope ["value"] ["value"] (defScope (topS 14)) := ⟨rfl, rfl, rfl, by decide +kernel, rfl, by decide +kernel, by decide +kernel⟩
theorem ok_isint (D : DefAt K mg "_law_is_integer" (topS 14)) (misi : mg "isinstance" = none) (mint : mg "int" = none) (mbool : mg "bool" = none) : Cf P' w K mg base 1 "_law_is_integer" spIsInt := by
  refine cal D sc14 (fun _ _ _ _ _ _ us hl => match us, hl with | [_], _ => rfl) (fun vs H Q E h => ?_) (fun f cdv A outer s H vs Q E hr h => ?_)
  · obtain ⟨i, rfl, _⟩ := h
    rfl
  · obtain ⟨i, rfl, q⟩ := h
    refine ⟨_, pss_one (ps_ret (pe_and (pe_callB call_isi (by rfl) misi (by decide +kernel) (pa_cons (pv 0) (pa_cons (pe_bltn (v := .ty "int") (u := .type "int") rfl mint (by decide +kernel) rfl) pa_nil)))
      (pe_one (pe_not (pe_callB call_isi (by rfl) misi (by decide +kernel) (pa_cons (pv 0) (pa_cons (pe_bltn (v := .ty "bool") (u := .type "bool") rfl mbool (by decide +kernel) rfl) pa_nil))))))), ?_⟩
    refine ⟨_, rfl, _, _, _, _, true, rfl, .ty _, .base (.int i), kit_ty (by decide +kernel), true, rfl, iteT ?_⟩
    exact ⟨_, rfl, _, _, _, _, false, rfl, .ty _, .base (.int i), kit_ty (by decide +kernel), false, rfl, q⟩
theorem tyx {H : Hp} {p : Addr} {xs : List V} (h : SqT K H p xs) : TyX K H (.ref p) (.type "tuple") := by
  rcases h with (h | ⟨o, h⟩) | ⟨o, its, n, h1, h2, _⟩
  · exact .base (.tup h)
  · exact .fTuple h
  · exact .kTuple h1 h2
/-- the same data, at most n deep -/
inductive Same (K : PySem.W.Frag) (H : Hp) : Nat → V → V → Prop where
  | int {n : Nat} (i : Int) : Same K H n (.int i) (.int i)
  | str {n : Nat} (s : Str) : Same K H n (.str s) (.str s)
  | tup {n : Nat} {p q : Addr} {xs ys : List V} (h1 : SqT K H p xs) (h2 : SqT K H q ys) (h3 : xs.length = ys.length) (h4 : xs.length ≤ 100000) (h5 : ∀ (i : Nat) (x y : V), xs[i]? = some x → ys[i]? = some y → Same K H n x y) : Same K H (n + 1) (.ref p) (.ref q)
theorem Same.mono {H H' : Hp} {M : List Addr} (e : Ex T M H H') {n : Nat} {v u : V} (h : Same K H n v u) : Same K H' n v u := by
  induction h with
  | int i => exact .int i
  | str s => exact .str s
  | tup h1 h2 h3 h4 _ ih => exact .tup (e.tupS h1) (e.tupS h2) h3 h4 ih
def spIs (K : PySem.W.Frag) (T : Addr) (n : Nat) : Sp := fun vs H Q _ => ∃ v u, vs = [v, u] ∧ Same K H n v u ∧ ∀ H', Ex T [] H H' → Q (.bl true) H'
theorem ix_tupK {X : Cx} (K : PySem.W.Frag) (h : X.K = K := by rfl) : IxR X (rIxT K) := h ▸ ix_tup
def spSub (K : PySem.W.Frag) (T : Addr) : Nat → Sp
  | 0 => fun _ _ _ _ => False
  | n + 1 => spIs K T n
theorem never_is (D : DefAt K mg "_law_is" (topS 15)) : Cf P' w K mg base 1 "_law_is" (spSub K T 0) := by
  obtain ⟨f, fd, F, hm⟩ := D
  exact ⟨f, fd, ["value", "due"], ⟨fun _ _ _ _ h => h.elim, fun _ _ _ _ _ _ _ _ _ _ _ _ _ h => h.elim⟩, hm, F.kp, F.bindsN fun _ _ _ _ _ _ us hl => match us, hl with | [_, _], _ => rfl⟩
theorem sc15 : FnScope ["value", "due", "at"] ["value", "due"] (defScope (topS 15)) := ⟨rfl, rfl, rfl, by decide +kernel, rfl, by decide +kernel, by decide +kernel⟩
theorem ok_is1 {k n : Nat} (hk : 1 ≤ k) (D : DefAt K mg "_law_is" (topS 15)) (c14 : Cf P' w K mg base 1 "_law_is_integer" spIsInt) (c15 : Cf P' w K mg base k "_law_is" (spSub K T n)) (misi : mg "isinstance" = none) (mint : mg "int" = none) (mbool : mg "bool" = none)
    (mstr : mg "str" = none) (mtup : mg "tuple" = none) (mlen : mg "len" = none) (mall : mg "all" = none) (mrange : mg "range" = none) : Cf P' w K mg base (k + 1) "_law_is" (spIs K T n) := by
  refine cal D sc15 (fun _ _ _ _ _ _ us hl => match us, hl with | [_, _], _ => rfl) (fun vs H Q E h => ?_) (fun f cdv A outer s H vs Q E hr h => ?_)
  · obtain ⟨v, u, rfl, _⟩ := h
    rfl
  · obtain ⟨v, u, rfl, hS, q⟩ := h
    refine ⟨_, pss_cons (ps_if (pt_cmpR op_isN (pv 1) pe_non (nomark _)) (pss_one (ps_ret (pe_cmpR op_isN (pv 0) pe_non (nomark _)))) pss_nil)
      (pss_cons (ps_if (pt_val (pe_callB call_isi (by rfl) misi (by decide +kernel) (pa_cons (pv 1) (pa_cons (pe_bltn (v := .ty "bool") (u := .type "bool") rfl mbool (by decide +kernel) rfl) pa_nil))))
        (pss_one (ps_ret (pe_and (pe_callB call_isi (by rfl) misi (by decide +kernel) (pa_cons (pv 0) (pa_cons (pe_bltn (v := .ty "bool") (u := .type "bool") rfl mbool (by decide +kernel) rfl) pa_nil))) (pe_one (pe_cmpR op_eq (pv 0) (pv 1) (nomark _)))))) pss_nil)
      (pss_cons (ps_if (pt_val (pe_callB call_isi (by rfl) misi (by decide +kernel) (pa_cons (pv 1) (pa_cons (pe_bltn (v := .ty "int") (u := .type "int") rfl mint (by decide +kernel) rfl) pa_nil))))
        (pss_one (ps_ret (pe_and (pcf c14 hr hk (pa_cons (pv 0) pa_nil)) (pe_one (pe_cmpR op_eq (pv 0) (pv 1) (nomark _)))))) pss_nil)
      (pss_cons (ps_if (pt_val (pe_callB call_isi (by rfl) misi (by decide +kernel) (pa_cons (pv 1) (pa_cons (pe_bltn (v := .ty "str") (u := .type "str") rfl mstr (by decide +kernel) rfl) pa_nil))))
        (pss_one (ps_ret (pe_and (pe_callB call_isi (by rfl) misi (by decide +kernel) (pa_cons (pv 0) (pa_cons (pe_bltn (v := .ty "str") (u := .type "str") rfl mstr (by decide +kernel) rfl) pa_nil))) (pe_one (pe_cmpR op_eq (pv 0) (pv 1) (nomark _)))))) pss_nil)
      (pss_cons (ps_if (PW.pt (pw_or (pt_not (pt_val (pe_callB call_isi (by rfl) misi (by decide +kernel) (pa_cons (pv 0) (pa_cons (pe_bltn (v := .ty "tuple") (u := .type "tuple") rfl mtup (by decide +kernel) rfl) pa_nil)))))
          (pw_or1 (pt_cmpR op_ne (pe_callB call_len_seq (by rfl) mlen PySem.boot_len (pa_cons (pv 0) pa_nil)) (pe_callB call_len_seq (by rfl) mlen PySem.boot_len (pa_cons (pv 1) pa_nil)) (nomark _))))) (pss_one (ps_ret pe_bl)) pss_nil)
      (pss_one (ps_ret (pe_callB (cr_all rfl) (by rfl) mall PyProof.Rows.boot_all (pa_cons (pe_lc (own := [("at", 2)]) (g := gName 2) rfl sc15.nd (pi_range1 rfl mrange (pa_cons (pe_callB call_len_seq (by rfl) mlen PySem.boot_len (pa_cons (pv 1) pa_nil)) pa_nil))
          (blkOk_by (N := ["value", "due", "at"]) (sc := defScope (topS 15)) (by decide +kernel)) (fun _ _ _ _ _ => pg_name (i := 2) sc15.nd rfl (Or.inl rfl)) (fun _ _ _ _ _ => pts_nil)
          (fun _ _ _ _ _ => pcf c15 hr (Nat.le_refl _) (pa_cons (pe_ix (ix_tupK K) (pv 0) (pv 2) (fun _ _ => rfl)) (pa_cons (pe_ix (ix_tupK K) (pv 1) (pv 2) (fun _ _ => rfl)) pa_nil)))) pa_nil)))))))), ?_⟩
    have isi : ∀ {σ : L2.St} {i : Nat} {x : V} {H1 : Hp} {a b : String} {r : Bool} {Q1 : VK}, σ[i]? = some (some x) → TyX K H1 x (.type a) → kitB a b = some r → Q1 (.bl r) H1 → tCB (rIsi K) (tCons (tVar i) (tCons (tC (.ty b)) tNil)) σ H1 Q1 :=
      fun h1 h2 h3 h4 => ⟨_, h1, _, _, _, _, _, rfl, .ty _, h2, kit_ty h3, h4⟩
    cases hS with
    | int i =>
      refine ⟨_, rfl, rfl, _, rfl, iteF ?_⟩
      refine isi rfl (.base (.int i)) (r := false) (by decide +kernel) ⟨false, rfl, iteF ?_⟩
      refine isi rfl (.base (.int i)) (r := true) (by decide +kernel) ⟨true, rfl, iteT ?_⟩
      refine ⟨_, rfl, ⟨i, rfl, true, rfl, iteT ⟨_, rfl, _, rfl, rfl, ?_⟩⟩⟩
      rw [decide_eq_true rfl]
      exact q _ (.refl _)
    | str z =>
      refine ⟨_, rfl, rfl, _, rfl, iteF ?_⟩
      refine isi rfl (.base (.str z)) (r := false) (by decide +kernel) ⟨false, rfl, iteF ?_⟩
      refine isi rfl (.base (.str z)) (r := false) (by decide +kernel) ⟨false, rfl, iteF ?_⟩
      refine isi rfl (.base (.str z)) (r := true) (by decide +kernel) ⟨true, rfl, iteT ?_⟩
      refine isi rfl (.base (.str z)) (r := true) (by decide +kernel) ⟨true, rfl, iteT ⟨_, rfl, _, rfl, rfl, ?_⟩⟩
      rw [decide_eq_true rfl]
      exact q _ (.refl _)
    | @tup n p q' xs ys h1 h2 h3 h4 h5 =>
      refine ⟨_, rfl, rfl, _, rfl, iteF ?_⟩
      refine isi rfl (tyx h2) (r := false) (by decide +kernel) ⟨false, rfl, iteF ?_⟩
      refine isi rfl (tyx h2) (r := false) (by decide +kernel) ⟨false, rfl, iteF ?_⟩
      refine isi rfl (tyx h2) (r := false) (by decide +kernel) ⟨false, rfl, iteF ?_⟩
      refine isi rfl (tyx h1) (r := true) (by decide +kernel) ⟨true, rfl, ?_⟩
      refine iteF ⟨_, rfl, p, _, rfl, .inr h1, _, rfl, q', _, rfl, .inr h2, rfl, _, rfl, ?_⟩
      rw [h3, decide_eq_true rfl]
      refine iteF ?_
      have hb : (2 : Int) ^ 62 = 4611686018427387904 := by decide
      refine ⟨_, rfl, q', _, rfl, .inr h2, _, rfl, by omega, by omega, fun d hd => lc_it (walk_range (lo := 0)) (fun i H' => Ex T [] H H' ∧ H d = none ∧ H' d = some (.lst ((List.replicate i true).map V.bl)))
        ⟨.new hd, hd, upd_same⟩ (fun _ _ _ _ => trivial) ?_ ?_⟩
      · rintro i x H1 H2 hi ⟨e1, hf, eD⟩ ⟨rfl, rfl⟩
        have hi' : i < ys.length := by omega
        have hx : xs[i]? = some (xs[i]'(by omega)) := List.getElem?_eq_getElem (by omega)
        have hy : ys[i]? = some ys[i] := List.getElem?_eq_getElem hi'
        have h0 : (0 : Int) + (i : Int) = (i : Int) := Int.zero_add _
        refine ⟨rfl, yes ⟨_, rfl, _, rfl, p, _, _, _, rfl, rfl, e1.tupS h1, (by rw [h0]; exact atI_nat hx), _, rfl, _, rfl, q', _, _, _, rfl, rfl, e1.tupS h2, (by rw [h0]; exact atI_nat hy), _, _, rfl, (h5 i _ _ hx hy).mono e1, fun H3 e3 => ?_⟩⟩
        refine ⟨_, e3.keep _ _ (by simp) ntL eD, szl (by simp; omega), (e1.trans e3).mut hf, hf, ?_⟩
        rw [upd_same, List.replicate_succ', List.map_append]
        rfl
      · rintro H1 ⟨e1, hf, eD⟩
        refine ⟨d, _, rfl, lstO eD, ?_⟩
        rw [show (List.replicate (ys.length : Int).toNat true).all id = true by simp]
        exact q _ e1
theorem ok_is (D : DefAt K mg "_law_is" (topS 15)) (c14 : Cf P' w K mg base 1 "_law_is_integer" spIsInt) (misi : mg "isinstance" = none) (mint : mg "int" = none) (mbool : mg "bool" = none)
    (mstr : mg "str" = none) (mtup : mg "tuple" = none) (mlen : mg "len" = none) (mall : mg "all" = none) (mrange : mg "range" = none) : ∀ n : Nat, Cf P' w K mg base (n + 2) "_law_is" (spIs K T n)
  | 0 => ok_is1 (Nat.le_refl _) D c14 (never_is D) misi mint mbool mstr mtup mlen mall mrange
  | n + 1 => ok_is1 (n := n + 1) (by omega) D c14 (ok_is D c14 misi mint mbool mstr mtup mlen mall mrange n) misi mint mbool mstr mtup mlen mall mrange
end
end W85

set_option Elab.async false
set_option linter.all false
set_option maxRecDepth 100000
set_option maxHeartbeats 8000000
namespace W85
open PySem PySem.Spec PyProof.Rows L2 H85 CwR
open TL (tl)
section
variable {P' : Program} {w : World} {K : PySem.W.Frag} {mg : Str → Option Value} {base : Heap} {T C PEa fI cda cc : Addr}
/-- the dict of draws -/
def kvs_ (dr : Addr) (n : Nat) : List (Key × V) := [(Sum.inr (Str.ofString "draws"), .ref dr), (Sum.inr (Str.ofString "at"), .int (n : Int))]
def Made (K : PySem.W.Frag) (H : Hp) (m dr : Addr) : Prop := ∃ (n : Nat) (ds : List Int), H m = some (.dK (kvs_ dr n)) ∧ SqL K H dr (ds.map V.int) ∧ ds.length = 200 ∧ dr ≠ m
theorem Made.ext {H H' : Hp} {m dr : Addr} (e : Ex T [] H H') (h : Made K H m dr) : Made K H' m dr := by
  obtain ⟨n, ds, h1, h2, h3, h5⟩ := h
  exact ⟨n, ds, e.keep _ _ (by simp) (fun _ z => by cases z) h1, e.lst (by simp) h2, h3, h5⟩
theorem Made.here {H : Hp} {m dr : Addr} (h : Made K H m dr) : ∃ u, H m = some u := by
  obtain ⟨n, ds, h1, _⟩ := h
  exact ⟨_, h1⟩
theorem Made.no {H : Hp} {m dr d : Addr} (h : Made K H m dr) (hd : H d = none) : d ∉ [m] := by
  obtain ⟨u, hu⟩ := h.here
  intro z
  rw [List.mem_singleton.mp z, hu] at hd
  cases hd
/-- what came later may change -/
theorem Made.mut {H H' : Hp} {m dr d : Addr} {o : HO} (h0 : Made K H m dr) (hd : H d = none) (e : Ex T [m] H H') (h : Made K H' m dr) : Made K (upd H' d o) m dr := by
  have hdm := h0.no hd
  obtain ⟨_, ds, _, h2, h3, h5⟩ := h0
  obtain ⟨n, _, h1, _⟩ := h
  refine ⟨n, ds, ?_, (e.mut hd).lst (by simpa using h5) h2, h3, h5⟩
  rw [upd_ne (fun z => hdm (by rw [z]; simp))]
  exact h1
def spTake (K : PySem.W.Frag) (T : Addr) : Sp := fun vs H Q _ => ∃ (m dr : Addr) (most : Nat), vs = [.ref m, .int (most : Int)] ∧ Made K H m dr ∧ 0 < most ∧ ∀ H' (r : Nat), Ex T [m] H H' → Made K H' m dr → r < most → Q (.int (r : Int)) H'
theorem sc16 : FnScope ["made", "most", "at", "draws"] ["made", "most"] (defScope (topS 16)) := ⟨rfl, rfl, rfl, by decide +kernel, rfl, by decide +kernel, by decide +kernel⟩
theorem get_at {dr : Addr} {n : Nat} : valV (kvs_ dr n) (Sum.inr (Str.ofString "at")) = some (.int (n : Int)) := by
  have h1 : ¬ (Sum.inr (Str.ofString "draws") : Key) = Sum.inr (Str.ofString "at") := by decide +kernel
  unfold kvs_
  rw [valV_neg h1, valV_pos rfl]
theorem get_draws {dr : Addr} {n : Nat} : valV (kvs_ dr n) (Sum.inr (Str.ofString "draws")) = some (.ref dr) := valV_pos rfl
theorem put_at {dr : Addr} {n : Nat} : putK (kvs_ dr n) (Sum.inr (Str.ofString "at")) (.int ((n : Int) + 1)) = kvs_ dr (n + 1) := by
  have h1 : ¬ (Sum.inr (Str.ofString "draws") : Key) = Sum.inr (Str.ofString "at") := by decide +kernel
  unfold putK kvs_
  rw [if_pos (by simp)]
  simp only [List.map_cons, List.map_nil, if_neg h1, if_true]
  rfl
theorem ok_take (D : DefAt K mg "_law_take" (topS 16)) (mlen : mg "len" = none) (mint : mg "int" = none) : Cf P' w K mg base 1 "_law_take" (spTake K T) := by
  refine cal D sc16 (fun _ _ _ _ _ _ us hl => match us, hl with | [_, _], _ => rfl) (fun vs H Q E h => ?_) (fun f cdv A outer s H vs Q E hr h => ?_)
  · obtain ⟨m, dr, most, rfl, _⟩ := h
    rfl
  · obtain ⟨m, dr, most, rfl, hM, hmost, q⟩ := h
    refine ⟨_, pss_cons (ps_set (i := 2) sc16.nd rfl (.inl rfl) (pe_dget (hu_of hr) (pv 0) pe_str (fun _ _ => rfl)))
      (pss_cons (ps_dput (hu_of hr) (pv 0) pe_str (pe_op op_add (pv 2) pe_int) rfl)
      (pss_cons (ps_set (i := 3) sc16.nd rfl (.inl rfl) (pe_dget (hu_of hr) (pv 0) pe_str (fun _ _ => rfl)))
      (pss_one (ps_ret (pe_op op_mod (pe_op op_add
        (pe_op op_fdivW (pe_callTy call_int1 (by rfl) mint PyProof.Rows.boot_int (pa_cons (pe_ix ix_list (pv 3) (pe_op op_mod (pv 2) (pe_callB call_len_seq (by rfl) mlen PySem.boot_len (pa_cons (pv 3) pa_nil))) (fun _ _ => rfl)) pa_nil))
          (pe_ix ix_tup (pe_tup (pa_cons pe_int (pa_cons pe_int (pa_cons pe_int (pa_cons pe_int pa_nil))))) (pe_op op_mod (pe_op op_fdivW (pv 2) (pe_callB call_len_seq (by rfl) mlen PySem.boot_len (pa_cons (pv 3) pa_nil))) pe_int) (fun _ _ => rfl)))
        (pe_op op_fdivW (pv 2) (pe_op op_mul pe_int (pe_callB call_len_seq (by rfl) mlen PySem.boot_len (pa_cons (pv 3) pa_nil))))) (pv 1)))))), ?_⟩
    obtain ⟨n, ds, h1, h2, h3, h5⟩ := hM
    have g1 : DGet H m (.str (Str.ofString "at")) (some (.int (n : Int))) := by
      rw [← get_at (dr := dr) (n := n)]
      exact DGet.k (k := Sum.inr (Str.ofString "at")) h1
    refine ⟨_, rfl, m, _, rfl, g1, ?_⟩
    refine ⟨_, rfl, _, _, rfl, rfl, _, rfl, m, _, rfl, DPut.k (k := Sum.inr (Str.ofString "at")) h1 (szl (show 2 ≤ 10000000 by decide)), ?_⟩
    rw [put_at]
    have e1 : Ex T [m] H (upd H m (.dK (kvs_ dr (n + 1)))) := .at_ h1 (by simp) (fun _ z => by cases z) (fun _ _ z => by cases z) (fun _ z => by cases z)
    have s1 : SqL K (upd H m (.dK (kvs_ dr (n + 1)))) dr (ds.map V.int) := e1.lst (by simpa using h5) h2
    have g2 : DGet (upd H m (.dK (kvs_ dr (n + 1)))) m (.str (Str.ofString "draws")) (some (.ref dr)) := by
      rw [← get_draws (dr := dr) (n := n + 1)]
      exact DGet.k (k := Sum.inr (Str.ofString "draws")) upd_same
    refine ⟨_, rfl, m, _, rfl, g2, ?_⟩
    have hl : (ds.map V.int).length = 200 := by rw [List.length_map, h3]
    have hj : n % 200 < ds.length := by omega
    have hat : atI (ds.map V.int) ((n : Int) % ((ds.map V.int).length : Int)) = some (.int ds[n % 200]) := by
      rw [hl]
      refine atI_nat (j := n % 200) ?_
      rw [List.getElem?_map, List.getElem?_eq_getElem hj]
      rfl
    -- draws[at % len(draws)]
    refine ⟨_, rfl, _, rfl, _, rfl, dr, _, rfl, .inl s1, _, _, rfl, rfl, ?_, dr, _, _, _, rfl, rfl, s1, hat, .inl ⟨_, rfl, ?_⟩⟩
    · show (0 : Int) < ((ds.map V.int).length : Int)
      rw [hl]
      decide
    -- (1, 7, 59, 211)[..]
    refine ⟨sz (show 4 ≤ 10000000 by decide), fun p hp => ?_⟩
    have s2 : SqL K (upd (upd H m (.dK (kvs_ dr (n + 1)))) p (.tup [.int 1, .int 7, .int 59, .int 211])) dr (ds.map V.int) := (Ex.new (T := T) (M := []) hp).lst (by simp) s1
    have hk : ∃ j : Int, atI [V.int 1, .int 7, .int 59, .int 211] ((n : Int) / ((ds.map V.int).length : Int) % 4) = some (.int j) ∧ 0 < j ∧ j.natAbs < 2 ^ 8 := by
      rw [hl]
      have : n / 200 % 4 < 4 := Nat.mod_lt _ (by decide)
      have hc : ((n : Int) / ((200 : Nat) : Int) % 4) = ((n / 200 % 4 : Nat) : Int) := by omega
      rw [hc]
      have h4 : n / 200 % 4 = 0 ∨ n / 200 % 4 = 1 ∨ n / 200 % 4 = 2 ∨ n / 200 % 4 = 3 := by omega
      rcases h4 with h | h | h | h
      · exact ⟨1, by rw [h]; rfl, by decide, by decide⟩
      · exact ⟨7, by rw [h]; rfl, by decide, by decide⟩
      · exact ⟨59, by rw [h]; rfl, by decide, by decide⟩
      · exact ⟨211, by rw [h]; rfl, by decide, by decide⟩
    obtain ⟨j, hk, hj0, hj8⟩ := hk
    refine ⟨_, rfl, _, rfl, dr, _, rfl, .inl s2, _, _, rfl, rfl, wide_div (b := 8) (by rw [hl]; decide) (by rw [hl]; decide) (by decide) (by decide), _, _, rfl, rfl, (by show (0 : Int) < 4; decide), p, _, _, _, rfl, rfl, tupO upd_same, hk, _, _, rfl, rfl, wide_div (b := 8) hj0 hj8 (by decide) (by decide), ?_⟩
    refine ⟨_, rfl, _, rfl, dr, _, rfl, .inl s2, _, _, rfl, rfl, .inl ⟨by decide, by decide⟩, _, _, rfl, rfl, wide_div (b := 10) (by rw [hl]; decide) (by rw [hl]; decide) (by decide) (by decide), _, _, rfl, rfl, _, rfl, _, _, rfl, rfl, ?_, ?_⟩
    · show (0 : Int) < (most : Int)
      omega
    have hz : 0 ≤ (ds[n % 200] / j + (n : Int) / (4 * ((ds.map V.int).length : Int))) % (most : Int) := Int.emod_nonneg _ (by omega)
    have hz2 : (ds[n % 200] / j + (n : Int) / (4 * ((ds.map V.int).length : Int))) % (most : Int) < (most : Int) := Int.emod_lt_of_pos _ (by omega)
    obtain ⟨r, er⟩ := Int.eq_ofNat_of_zero_le hz
    rw [er] at hz2
    show Q (.int ((ds[n % 200] / j + (n : Int) / (4 * ((ds.map V.int).length : Int))) % (most : Int))) _
    rw [er]
    have e3 := e1.trans (.new (T := T) (M := [m]) (o := .tup [.int 1, .int 7, .int 59, .int 211]) hp)
    refine q _ r e3 ⟨n + 1, ds, ?_, s2, h3, h5⟩ (by omega)
    rw [upd_ne (ne_of_none upd_same hp)]
    exact upd_same
end
end W85

set_option Elab.async false
set_option linter.all false
set_option maxRecDepth 100000
set_option maxHeartbeats 8000000
namespace W85
open PySem PySem.Spec PyProof.Rows L2 H85 CwR
open TL (tl)
section
variable {P' : Program} {w : World} {K : PySem.W.Frag} {mg : Str → Option Value} {base : Heap} {T C PEa fI cda cc : Addr}
theorem if_and {i : Nat} {b : Bool} {tt : TT} {A B : TS} {D : Ends} {σ : L2.St} {H : Hp} (h : σ[i]? = some (some (.bl b))) (hA : A D σ H) (hB : B D σ H) (ht : ∀ Q : Bool → Hp → Prop, Q true H → Q false H → tt σ H Q) : tIfS (tAnd (tB (tVar i)) tt) A B D σ H := by
  refine ⟨_, h, b, rfl, ?_⟩
  cases b
  · exact iteF (iteF hB)
  · exact iteT (ht _ (iteT hA) (iteF hB))
def spCell (K : PySem.W.Frag) : Sp := fun vs H Q _ => ∃ (a : Addr) (ns : List Int) (k : Nat), vs = [.ref a, .int (k : Int)] ∧ SqL K H a (ns.map V.int) ∧ ∀ i : Int, Q (.int i) H
theorem sc12 : FnScope ["script", "k"] ["script", "k"] (defScope (topS 12)) := ⟨rfl, rfl, rfl, by decide +kernel, rfl, by decide +kernel, by decide +kernel⟩
theorem ok_cell (D : DefAt K mg "_law_cell" (topS 12)) (mlen : mg "len" = none) : Cf P' w K mg base 1 "_law_cell" (spCell K) := by
  refine cal D sc12 (fun _ _ _ _ _ _ us hl => match us, hl with | [_, _], _ => rfl) (fun vs H Q E h => ?_) (fun f cdv A outer s H vs Q E hr h => ?_)
  · obtain ⟨a, ns, k, rfl, _⟩ := h
    rfl
  · obtain ⟨a, ns, k, rfl, hS, q⟩ := h
    refine ⟨_, pss_cons (ps_if (pt_cmpR op_lt (pv 1) (pe_callB call_len_seq (by rfl) mlen PySem.boot_len (pa_cons (pv 0) pa_nil)) (nomark _)) (pss_one (ps_ret (pe_ix ix_list (pv 0) (pv 1) (fun _ _ => rfl)))) pss_nil)
      (pss_one (ps_ret (pe_op op_add (pe_op op_mul pe_int (pv 1)) pe_int))), ?_⟩
    refine ⟨_, rfl, _, rfl, a, _, rfl, .inl hS, _, _, rfl, rfl, _, rfl, ite2 (fun hb => ?_) (fun hb => ?_)⟩
    · have hlt : k < ns.length := by
        have z := of_decide_eq_true hb
        rw [List.length_map] at z
        omega
      refine ⟨_, rfl, _, rfl, a, _, _, .int ns[k], rfl, rfl, hS, atI_nat (by rw [List.getElem?_map, List.getElem?_eq_getElem hlt]; rfl), q _⟩
    · exact ⟨_, rfl, _, _, rfl, rfl, .inl ⟨by decide, by decide⟩, _, _, rfl, rfl, q _⟩
def spDraws (K : PySem.W.Frag) (T : Addr) : Sp := fun vs H Q _ => ∃ c : Int, vs = [.int c, .int 200] ∧ ∀ (H' : Hp) (d : Addr) (ds : List Int), Ex T [] H H' → H d = none → H' d = some (.lst (ds.map V.int)) → ds.length = 200 → Q (.ref d) H'
theorem sc13 : FnScope ["cell", "count", "rest", "digits", "seed", "draws", "k", "mixed"] ["cell", "count"] (defScope (topS 13)) := ⟨rfl, rfl, rfl, by decide +kernel, rfl, by decide +kernel, by decide +kernel⟩
theorem ok_draws (D : DefAt K mg "_law_draws" (topS 13)) (mabs : mg "abs" = none) (mint : mg "int" = none) (mrange : mg "range" = none) : Cf P' w K mg base 1 "_law_draws" (spDraws K T) := by
  refine cal D sc13 (fun _ _ _ _ _ _ us hl => match us, hl with | [_, _], _ => rfl) (fun vs H Q E h => ?_) (fun f cdv A outer s H vs Q E hr h => ?_)
  · obtain ⟨c, rfl, _⟩ := h
    rfl
  · obtain ⟨c, rfl, q⟩ := h
    refine ⟨_, pss_cons (ps_set (i := 2) sc13.nd rfl (.inl rfl) (pe_callB call_abs (by rfl) mabs (by decide +kernel) (pa_cons (pe_callTy call_int1 (by rfl) mint PyProof.Rows.boot_int (pa_cons (pv 0) pa_nil)) pa_nil)))
      (pss_cons (ps_set (i := 3) sc13.nd rfl (.inl rfl) (pe_cmpR op_ge (pv 2) (pe_op op_pow pe_int pe_int) (nomark _)))
      (pss_cons (ps_set (i := 4) sc13.nd rfl (.inl rfl) (pv 2))
      (pss_cons (ps_set (i := 5) sc13.nd rfl (.inl rfl) (pe_lst pa_nil))
      (pss_cons (ps_for PassesOwn.never rfl (pi_range1 rfl mrange (pa_cons (pv 1) pa_nil)) (pg_name (i := 6) sc13.nd rfl (.inl rfl))
        (pss_one (ps_if (PW.pt (pw_and (pt_val (pv 3)) (pw_and1 (pt_cmpR op_gt (pv 2) pe_int (nomark _)))))
          (pss_cons (ps_expr (pe_bm PySem.F.plainAttrs_list PySem.F.slot_list_append PySem.F.type_list_append mt_append (pv 5) (pa_cons (pe_op op_mod (pe_callTy call_int1 (by rfl) mint PyProof.Rows.boot_int (pa_cons (pv 2) pa_nil)) pe_int) pa_nil)))
          (pss_one (ps_set (i := 2) sc13.nd rfl (.inl rfl) (pe_op op_fdivW (pv 2) pe_int))))
          (pss_cons (ps_set (i := 7) sc13.nd rfl (.inl rfl) (pe_op op_mod (pe_callTy call_int1 (by rfl) mint PyProof.Rows.boot_int (pa_cons (pe_op op_add (pe_op op_add (pe_op op_mul (pv 4) pe_int) (pe_op op_mul (pe_op op_add (pv 6) pe_int) pe_int)) pe_int) pa_nil)) pe_int))
          (pss_cons (ps_set (i := 7) sc13.nd rfl (.inl rfl) (pe_op op_mod (pe_callTy call_int1 (by rfl) mint PyProof.Rows.boot_int (pa_cons (pe_op op_add (pe_op op_mul (pv 7) (pv 7)) (pe_op op_mul pe_int (pe_op op_add (pv 6) pe_int))) pa_nil)) pe_int))
          (pss_one (ps_expr (pe_bm PySem.F.plainAttrs_list PySem.F.slot_list_append PySem.F.type_list_append mt_append (pv 5) (pa_cons (pe_op op_mod (pe_callTy call_int1 (by rfl) mint PyProof.Rows.boot_int (pa_cons (pe_op op_fdivW (pv 7) pe_int) pa_nil)) pe_int) pa_nil)))))))))
      (pss_one (ps_ret (pv 5))))))), ?_⟩
    refine ⟨_, rfl, .inl ⟨_, rfl, _, rfl, ?_⟩⟩
    refine ⟨_, rfl, _, _, rfl, rfl, ⟨by decide, by decide, by decide⟩, _, _, rfl, rfl, ?_⟩
    refine ⟨_, rfl, sz (Nat.zero_le _), fun d hd => ?_⟩
    refine ⟨_, rfl, _, rfl, by decide, by decide, for_it (walk_range (lo := 0)) (fun i σ H' => ∃ (r s0 : Int) (b : Bool) (x6 x7 : Option V) (ds : List Int), σ = [some (.int c), some (.int 200), some (.int r), some (.bl b), some (.int s0), some (.ref d), x6, x7] ∧ Ex T [] H H' ∧
        H' d = some (.lst (ds.map V.int)) ∧ ds.length = i) ⟨_, _, _, none, none, [], rfl, .new hd, upd_same, rfl⟩ (fun _ _ _ _ _ => trivial) ?_ ?_⟩
    · rintro i x σ H1 H2 hi ⟨r, s0, b, x6, x7, ds, rfl, e1, eD, hn⟩ ⟨eH, rfl⟩
      subst eH
      have hi' : i < 200 := hi
      have hsz : (ds.map V.int).length < sizeLine := szl (by rw [List.length_map]; omega)
      have fin : ∀ (z : Int) (H3 : Hp), H3 = upd H2 d (.lst (ds.map V.int ++ [.int z])) → Ex T [] H H3 ∧ H3 d = some (.lst ((ds ++ [z]).map V.int)) ∧ (ds ++ [z]).length = i + 1 := fun z H3 e => by
        subst e
        refine ⟨e1.mut hd, ?_, by simp [hn]⟩
        rw [upd_same, List.map_append]
        rfl
      have hb : (2 : Int) ^ 64 = 18446744073709551616 := by decide
      refine if_and rfl ?_ ?_ (fun Q h1 h2 => ⟨_, rfl, _, _, rfl, rfl, _, rfl, ?_⟩)
      · refine ⟨_, rfl, .inl ⟨rfl, _, lstO eD⟩, _, rfl, .inl ⟨_, rfl, _, _, rfl, rfl, (by show (0 : Int) < 5040; decide), d, _, _, rfl, rfl, eD, hsz, ?_⟩⟩
        refine ⟨_, rfl, _, _, rfl, rfl, wide_div (b := 13) (by decide) (by decide) (by decide) (by decide), ?_⟩
        obtain ⟨f1, f2, f3⟩ := fin _ _ rfl
        exact ⟨_, _, _, _, _, _, rfl, f1, f2, f3⟩
      · refine ⟨_, rfl, _, _, rfl, rfl, .inr ⟨by decide, by decide⟩, _, rfl, _, _, rfl, rfl, _, _, rfl, rfl, .inr ⟨by decide, by decide⟩, _, _, rfl, rfl, _, _, rfl, rfl, .inl ⟨_, rfl, _, _, rfl, rfl, (by show (0 : Int) < 2147483647; decide), ?_⟩⟩
        refine ⟨_, rfl, _, rfl, _, _, rfl, rfl, .inl ⟨?_, ?_⟩, _, rfl, _, _, rfl, rfl, _, _, rfl, rfl, .inl ⟨by decide, by decide⟩, _, _, rfl, rfl, .inl ⟨_, rfl, _, _, rfl, rfl, (by show (0 : Int) < 2147483399; decide), ?_⟩⟩
        · have := Int.emod_nonneg (s0 * 48271 + (0 + (i : Int) + 1) * 69621 + 11) (show (2147483647 : Int) ≠ 0 by decide)
          omega
        · have := Int.emod_lt_of_pos (s0 * 48271 + (0 + (i : Int) + 1) * 69621 + 11) (show (0 : Int) < 2147483647 by decide)
          omega
        refine ⟨_, rfl, .inl ⟨rfl, _, lstO eD⟩, _, rfl, _, _, rfl, rfl, wide_div (b := 7) (by decide) (by decide) (by decide) (by decide), .inl ⟨_, rfl, _, _, rfl, rfl, (by show (0 : Int) < 5040; decide), d, _, _, rfl, rfl, eD, hsz, ?_⟩⟩
        obtain ⟨f1, f2, f3⟩ := fin _ _ rfl
        exact ⟨_, _, _, _, _, _, rfl, f1, f2, f3⟩
      · show Q (decide ((0 : Int) < r)) _
        cases decide ((0 : Int) < r)
        · exact h2
        · exact h1
    · rintro σ H1 ⟨r, s0, b, x6, x7, ds, rfl, e1, eD, hn⟩
      exact ⟨_, rfl, q _ d ds e1 hd eD hn⟩
end
end W85

set_option Elab.async false
set_option linter.all false
set_option maxRecDepth 100000
set_option maxHeartbeats 8000000
namespace W85
open PySem PySem.Spec PyProof.Rows L2 H85 CwR
open TL (tl)
section
variable {P' : Program} {w : World} {K : PySem.W.Frag} {mg : Str → Option Value} {base : Heap} {T C PEa fI cda cc : Addr}
theorem line_same {H : Hp} {n : Nat} {v u : V} {fs : List (List Nat)} (hv : Line K H v fs) (hu : Line K H u fs) (hn : fs.length ≤ 100000) : Same K H (n + 1) v u := by
  obtain ⟨p, rfl, h1⟩ := hv
  obtain ⟨q, rfl, h2⟩ := hu
  refine .tup h1 h2 rfl (by rw [List.length_map]; exact hn) fun i x y hx hy => ?_
  rw [hx] at hy
  cases hy
  rw [List.getElem?_map] at hx
  cases e : fs[i]? with
  | none =>
    rw [e] at hx
    cases hx
  | some f =>
    rw [e] at hx
    have z : V.str (S f) = x := Option.some.inj hx
    subst z
    exact .str _
theorem rows_same {H : Hp} {n : Nat} {v u : V} {rows : List (List (List Nat))} (hv : Rows K H v rows) (hu : Rows K H u rows) (hn : (K85.wr rows).length ≤ 100000) : Same K H (n + 2) v u := by
  obtain ⟨p, vs, rfl, h1, l1⟩ := hv
  obtain ⟨q, us, rfl, h2, l2⟩ := hu
  have n1 := l1.len
  have n2 := l2.len
  obtain ⟨w1, w2⟩ := K85.wr_len (rows := rows)
  refine .tup h1 h2 (by omega) (by omega) fun i x y hx hy => ?_
  obtain ⟨fs, e1, z1⟩ := l1.get hx
  obtain ⟨gs, e2, z2⟩ := l2.get hy
  rw [e1] at e2
  cases e2
  have h3 := w2 fs (List.mem_of_getElem? e1)
  have h4 := (K85.line_len (fs := fs)).1
  exact line_same z1 z2 (by omega)
def spRight (T : Addr) : Sp := fun vs H Q _ => ∃ t : List Nat, vs = [.str (S t)] ∧ t.length ≤ 50000 ∧ GxR.TabG H T ∧ ∀ H', Ex T [] H H' → Q (.bl true) H'
theorem sc22 : FnScope ["text", "due", "told"] ["text"] (defScope (topS 22)) := ⟨rfl, rfl, rfl, by decide +kernel, rfl, by decide +kernel, by decide +kernel⟩
theorem ok_right (D : DefAt K mg "_law_text_right" (topS 22)) (c20 : Cf P' w K mg base 3 "_law_read" (spLRead K T)) (c21 : Cf P' w K mg base 6 "_law_told" (spTold K T)) (c15 : Cf P' w K mg base 5 "_law_is" (spIs K T 3)) (c6 : Cf P' w K mg base 3 "write_commas" (spWr K T))
    (misi : mg "isinstance" = none) (mint : mg "int" = none) : Cf P' w K mg base 7 "_law_text_right" (spRight T) := by
  refine cal D sc22 (fun _ _ _ _ _ _ us hl => match us, hl with | [_], _ => rfl) (fun vs H Q E h => ?_) (fun f cdv A outer s H vs Q E hr h => ?_)
  · obtain ⟨t, rfl, _⟩ := h
    rfl
  · obtain ⟨t, rfl, ht, hT, q⟩ := h
    refine ⟨_, pss_cons (ps_set (i := 1) sc22.nd rfl (.inl rfl) (pcf c20 hr (by decide) (pa_cons (pv 0) pa_nil)))
      (pss_cons (ps_set (i := 2) sc22.nd rfl (.inl rfl) (pcf c21 hr (by decide) (pa_cons (pv 0) pa_nil)))
      (pss_cons (ps_if (pt_val (pe_callB call_isi (by rfl) misi (by decide +kernel) (pa_cons (pv 1) (pa_cons (pe_bltn (v := .ty "int") (u := .type "int") rfl mint (by decide +kernel) rfl) pa_nil))))
        (pss_one (ps_ret (pcf c15 hr (by decide) (pa_cons (pv 2) (pa_cons (pe_tup (pa_cons pe_str (pa_cons (pv 1) pa_nil))) pa_nil))))) pss_nil)
      (pss_one (ps_ret (pe_and (pcf c15 hr (by decide) (pa_cons (pv 2) (pa_cons (pe_tup (pa_cons pe_str (pa_cons (pv 1) pa_nil))) pa_nil)))
        (pe_one (pcf c15 hr (by decide) (pa_cons (pcf c6 hr (by decide) (pa_cons (pe_ix ix_tup (pv 2) pe_int (fun _ _ => rfl)) pa_nil)) (pa_cons (pv 0) pa_nil))))))))), ?_⟩
    have isi : ∀ {σ : L2.St} {i : Nat} {x : V} {H1 : Hp} {a b : String} {r : Bool} {Q1 : VK}, σ[i]? = some (some x) → TyX K H1 x (.type a) → kitB a b = some r → Q1 (.bl r) H1 → tCB (rIsi K) (tCons (tVar i) (tCons (tC (.ty b)) tNil)) σ H1 Q1 :=
      fun h1 h2 h3 h4 => ⟨_, h1, _, _, _, _, _, rfl, .ty _, h2, kit_ty h3, h4⟩
    refine ⟨.str (S t), rfl, t, rfl, by omega, fun n hn H1 e1 => ?_, fun rows hrows H1 u e1 hu => ?_⟩
    · refine ⟨.str (S t), rfl, t, rfl, by omega, e1.tab hT, fun n2 hn2 H2 p e2 hp => ?_, fun rows hr2 => ?_⟩
      · rw [hn] at hn2
        cases hn2
        refine isi rfl (.base (.int _)) (r := true) (by decide +kernel) ⟨true, rfl, iteT ?_⟩
        refine ⟨.ref p, rfl, .int _, rfl, sz (show 2 ≤ 10000000 by decide), fun q' hq' => ⟨_, _, rfl, ?_, fun H3 e3 => q _ ((e1.trans e2).trans ((Ex.new hq').trans e3))⟩⟩
        refine .tup ((Ex.new (T := T) (M := []) hq').tupS (tupO hp)) (tupO upd_same) rfl (by show 2 ≤ 100000; decide) fun i x y hx hy => ?_
        rw [hx] at hy
        cases hy
        match i, hx with
        | 0, hx => cases hx; exact .str _
        | 1, hx => cases hx; exact .int _
      · rw [hn] at hr2
        cases hr2
    · have hw := K85.wr_read hrows
      refine ⟨.str (S t), rfl, t, rfl, by omega, e1.tab hT, fun n2 hn2 => ?_, fun rows2 hr2 H2 p v e2 hp hv => ?_⟩
      · rw [hrows] at hn2
        cases hn2
      · rw [hrows] at hr2
        cases hr2
        have hu2 := hu.mono e2
        obtain ⟨pu, us, rfl, hsu, hlu⟩ := hu
        refine isi rfl (tyx (e2.tupS hsu)) (r := false) (by decide +kernel) ⟨false, rfl, iteF ?_⟩
        refine ⟨.ref p, rfl, .ref pu, rfl, sz (show 2 ≤ 10000000 by decide), fun q' hq' => ⟨_, _, rfl, ?_, fun H3 e3 => ?_⟩⟩
        · have e4 := Ex.new (T := T) (M := []) (o := .tup [.str (Str.ofString "told"), .ref pu]) hq'
          refine .tup (e4.tupS (tupO hp)) (tupO upd_same) rfl (by show 2 ≤ 100000; decide) fun i x y hx hy => ?_
          match i, hx, hy with
          | 0, hx, hy =>
            cases hx
            cases hy
            exact .str _
          | 1, hx, hy =>
            cases hx
            cases hy
            exact rows_same (n := 0) (hv.mono e4) (hu2.mono e4) (by rw [hw]; omega)
        · have e5 := (Ex.new (T := T) (M := []) (o := .tup [.str (Str.ofString "told"), .ref pu]) hq').trans e3
          refine ⟨true, rfl, iteT ?_⟩
          refine ⟨_, rfl, p, _, _, _, rfl, rfl, e5.tupS (tupO hp), atI_nat (j := 1) rfl, v, rows, rfl, hv.mono e5, by rw [hw]; omega, fun H4 e6 => ?_⟩
          rw [hw]
          exact ⟨.str (S t), rfl, _, _, rfl, .str _, fun H5 e7 => q _ (((e1.trans e2).trans e5).trans (e6.trans e7))⟩
end
end W85

set_option Elab.async false
set_option linter.all false
set_option maxRecDepth 100000
set_option maxHeartbeats 8000000
namespace W85
open PySem PySem.Spec PyProof.Rows L2 H85 CwR
open TL (tl)
section
variable {P' : Program} {w : World} {K : PySem.W.Frag} {mg : Str → Option Value} {base : Heap} {T C PEa fI cda cc : Addr}
def sgn : List Str := [Str.ofString "a", Str.ofString ",", Str.ofString "\"", Str.ofString " ", Str.ofString "1", Str.ofString "'", Str.ofString "=A1", Str.ofString "~", Str.ofString "x,y", Str.ofString "\"\"", Str.ofString "TRUE"]
theorem sgn_ok : ∀ x ∈ sgn, (tl x).length ≤ 4 ∧ ∀ c ∈ tl x, K85.pr c = true := by
  have h : (sgn.all fun x => decide ((tl x).length ≤ 4) && (tl x).all K85.pr) = true := by decide +kernel
  intro x hx
  have z := List.all_eq_true.mp h x hx
  rw [Bool.and_eq_true] at z
  exact ⟨of_decide_eq_true z.1, List.all_eq_true.mp z.2⟩
def spMField (K : PySem.W.Frag) (T : Addr) : Sp := fun vs H Q _ => ∃ m dr : Addr, vs = [.ref m] ∧ Made K H m dr ∧ ∀ (H' : Hp) (f : List Nat), Ex T [m] H H' → Made K H' m dr → f.length ≤ 12 → (∀ c ∈ f, K85.pr c = true) → Q (.str (S f)) H'
theorem sc23 : FnScope ["made", "signs", "turn"] ["made"] (defScope (topS 23)) := ⟨rfl, rfl, rfl, by decide +kernel, rfl, by decide +kernel, by decide +kernel⟩
theorem ok_mfield (D : DefAt K mg "_law_made_field" (topS 23)) (c16 : Cf P' w K mg base 1 "_law_take" (spTake K T)) (mrange : mg "range" = none) : Cf P' w K mg base 2 "_law_made_field" (spMField K T) := by
  refine cal D sc23 (fun _ _ _ _ _ _ us hl => match us, hl with | [_], _ => rfl) (fun vs H Q E h => ?_) (fun f cdv A outer s H vs Q E hr h => ?_)
  · obtain ⟨m, dr, rfl, _⟩ := h
    rfl
  · obtain ⟨m, dr, rfl, hM, q⟩ := h
    refine ⟨_, pss_cons (ps_set (i := 1) sc23.nd rfl (.inr rfl) (pe_tup (pa_cons pe_str (pa_cons pe_str (pa_cons pe_str (pa_cons pe_str (pa_cons pe_str (pa_cons pe_str (pa_cons pe_str (pa_cons pe_str (pa_cons pe_str (pa_cons pe_str (pa_cons pe_str pa_nil)))))))))))))
      (pss_one (ps_ret (pe_join pe_str (pe_lc (own := [("turn", 2)]) (g := gName 2) rfl sc23.nd (pi_range1 rfl mrange (pa_cons (pcf c16 hr (by decide) (pa_cons (pv 0) (pa_cons pe_int pa_nil))) pa_nil))
          (blkOk_by (N := ["made", "signs", "turn"]) (sc := defScope (topS 23)) (by decide +kernel)) (fun _ _ _ _ _ => pg_name (i := 2) sc23.nd rfl (Or.inl rfl)) (fun _ _ _ _ _ => pts_nil)
          (fun _ _ _ _ _ => pe_ix (ix_tupK K) (pv 1) (pcf c16 hr (by decide) (pa_cons (pv 0) (pa_cons pe_int pa_nil))) (fun _ _ => rfl)))))), ?_⟩
    refine ⟨sz (show 11 ≤ 10000000 by decide), fun p hp => ?_⟩
    have e1 : Ex T [m] H (upd H p (.tup (sgn.map V.str))) := .new hp
    have M1 : Made K (upd H p (.tup (sgn.map V.str))) m dr := hM.ext (T := T) (.new hp)
    refine ⟨⟨_, rfl⟩, .ref m, rfl, m, dr, 4, rfl, M1, by decide, fun H1 r e2 M2 hr4 => ?_⟩
    refine ⟨_, rfl, by omega, by omega, fun d hd => lc_it (walk_range (lo := 0)) (fun i H' => ∃ ws : List (List Nat), Ex T [m] H1 H' ∧ Made K H' m dr ∧ H' d = some (.lst ((ws.map S).map V.str)) ∧ ws.length = i ∧ (∀ x ∈ ws, x.length ≤ 4) ∧ (∀ x ∈ ws, ∀ c ∈ x, K85.pr c = true) ∧ H' p = some (.tup (sgn.map V.str)))
      ⟨[], .new hd, M2.ext (T := T) (.new hd), upd_same, rfl, by simp, by simp, ?_⟩ (fun _ _ _ _ => trivial) ?_ ?_⟩
    · rw [upd_ne (ne_of_none (e2.tup _ _ upd_same) hd)]
      exact e2.tup _ _ upd_same
    · rintro i x H2 H3 hi ⟨ws, f1, f2, fD, fn, fl, fp, ft⟩ ⟨rfl, rfl⟩
      have hdm := M2.no hd
      refine ⟨rfl, yes ⟨_, rfl, .ref m, rfl, m, dr, 11, rfl, f2, by decide, fun H4 r2 e4 M4 hr11 => ?_⟩⟩
      have hlen : sgn.length = 11 := rfl
      have hj : sgn[r2]? = some (sgn[r2]'(by omega)) := List.getElem?_eq_getElem (by omega)
      obtain ⟨w1, w2⟩ := sgn_ok _ (List.getElem_mem (show r2 < sgn.length by omega))
      refine ⟨p, _, _, .str (sgn[r2]'(by omega)), rfl, rfl, tupO (e4.tup _ _ ft), atI_nat (by rw [List.getElem?_map, hj]; rfl), ?_⟩
      have hd4 := e4.keep _ _ hdm ntL fD
      refine ⟨_, hd4, szl (by rw [List.length_map, List.length_map]; omega), ws ++ [tl (sgn[r2]'(by omega))], (f1.trans e4).mut hd, M2.mut hd (f1.trans e4) M4, ?_, by simp [fn], fun x hx => ?_, fun x hx => ?_, ?_⟩
      · rw [upd_same, List.map_append, List.map_append]
        show _ = some (HO.lst (_ ++ [V.str (S (tl _))]))
        rw [S_tl]
      · rcases List.mem_append.mp hx with h | h
        · exact fl x h
        · rw [List.mem_singleton.mp h]
          exact w1
      · rcases List.mem_append.mp hx with h | h
        · exact fp x h
        · rw [List.mem_singleton.mp h]
          exact w2
      · exact (Ex.atL (T := T) hd4).tup _ _ (e4.tup _ _ ft)
    · rintro H2 ⟨ws, f1, f2, fD, fn, fl, fp, ft⟩
      have hj : K85.joinL [] ws = ws.flatten := K85.joinL_nil _
      have hlen : ∀ (ws : List (List Nat)), (∀ x ∈ ws, x.length ≤ 4) → ws.flatten.length ≤ 4 * ws.length := fun ws => by
        induction ws with
        | nil => intro _; simp
        | cons a r ih =>
          intro h
          have h1 := h a List.mem_cons_self
          have h2 := ih fun x hx => h x (List.mem_cons_of_mem _ hx)
          rw [List.flatten_cons, List.length_append, List.length_cons]
          omega
      have hl := hlen ws fl
      have hn : ws.length ≤ 3 := by
        have : (r : Int).toNat = r := rfl
        omega
      refine ⟨_, d, _, rfl, rfl, .inl (lstO fD), ?_, ?_⟩
      · rw [nosign, sum_S, len_S, K85.sum_flat]
        show _ + _ * 0 ≤ _
        omega
      · rw [nosign, join_S, hj]
        refine q _ _ ((e1.trans e2).trans f1) f2 (by omega) fun c hc => ?_
        obtain ⟨x, hx, hcx⟩ := List.mem_flatten.mp hc
        exact fp x hx c hcx
end
end W85

set_option Elab.async false
set_option linter.all false
set_option maxRecDepth 100000
set_option maxHeartbeats 8000000
namespace W85
open PySem PySem.Spec PyProof.Rows L2 H85 CwR
open TL (tl)
section
variable {P' : Program} {w : World} {K : PySem.W.Frag} {mg : Str → Option Value} {base : Heap} {T C PEa fI cda cc : Addr}
def bts : List Str := [Str.ofString "\"", Str.ofString ",", Str.ofString "\n", Str.ofString "a", Str.ofString "\"\"", Str.ofString "\t", Str.ofString "\"a\"", Str.ofString "", Str.ofString "\"\","]
theorem bts_ok : ∀ x ∈ bts, (tl x).length ≤ 3 := by
  have h : (bts.all fun x => decide ((tl x).length ≤ 3)) = true := by decide +kernel
  intro x hx
  exact of_decide_eq_true (List.all_eq_true.mp h x hx)
def spBent (K : PySem.W.Frag) (T : Addr) : Sp := fun vs H Q _ => ∃ (m dr : Addr) (t : List Nat), vs = [.ref m, .str (S t)] ∧ Made K H m dr ∧ t.length ≤ 40000 ∧ ∀ (H' : Hp) (t' : List Nat), Ex T [m] H H' → Made K H' m dr → t'.length ≤ t.length + 3 → Q (.str (S t')) H'
theorem sc24 : FnScope ["made", "text", "at", "sign", "way"] ["made", "text"] (defScope (topS 24)) := ⟨rfl, rfl, rfl, by decide +kernel, rfl, by decide +kernel, by decide +kernel⟩
theorem ok_bent (D : DefAt K mg "_law_bent_text" (topS 24)) (c16 : Cf P' w K mg base 1 "_law_take" (spTake K T)) (mlen : mg "len" = none) : Cf P' w K mg base 2 "_law_bent_text" (spBent K T) := by
  refine cal D sc24 (fun _ _ _ _ _ _ us hl => match us, hl with | [_, _], _ => rfl) (fun vs H Q E h => ?_) (fun f cdv A outer s H vs Q E hr h => ?_)
  · obtain ⟨m, dr, t, rfl, _⟩ := h
    rfl
  · obtain ⟨m, dr, t, rfl, hM, ht, q⟩ := h
    refine ⟨_, pss_cons (ps_set (i := 2) sc24.nd rfl (.inl rfl) (pcf c16 hr (by decide) (pa_cons (pv 0) (pa_cons (pe_op op_add (pe_callB call_len_str (by rfl) mlen PySem.boot_len (pa_cons (pv 1) pa_nil)) pe_int) pa_nil))))
      (pss_cons (ps_set (i := 3) sc24.nd rfl (.inl rfl) (pe_ix ix_tup (pe_tup (pa_cons pe_str (pa_cons pe_str (pa_cons pe_str (pa_cons pe_str (pa_cons pe_str (pa_cons pe_str (pa_cons pe_str (pa_cons pe_str (pa_cons pe_str pa_nil)))))))))) (pcf c16 hr (by decide) (pa_cons (pv 0) (pa_cons pe_int pa_nil))) (fun _ _ => rfl)))
      (pss_cons (ps_set (i := 4) sc24.nd rfl (.inl rfl) (pcf c16 hr (by decide) (pa_cons (pv 0) (pa_cons pe_int pa_nil))))
      (pss_cons (ps_if (pt_cmpR op_eq (pv 4) pe_int (nomark _)) (pss_one (ps_ret (pe_op op_add_str (pe_op op_add_str (pe_slice sl_str (pv 1) po_none (po_some (pv 2))) (pv 3)) (pe_slice sl_str (pv 1) (po_some (pv 2)) po_none)))) pss_nil)
      (pss_one (ps_ret (pe_ifExp (pt_cmpR op_eq (pv 4) pe_int (nomark _)) (pe_op op_add_str (pe_slice sl_str (pv 1) po_none (po_some (pv 2))) (pe_slice sl_str (pv 1) (po_some (pe_op op_add (pv 2) pe_int)) po_none))
        (pe_op op_add_str (pe_op op_add_str (pe_slice sl_str (pv 1) po_none (po_some (pv 2))) (pv 3)) (pe_slice sl_str (pv 1) (po_some (pe_op op_add (pv 2) pe_int)) po_none)))))))), ?_⟩
    have hL : (S t).length = t.length := len_S t
    refine ⟨.ref m, rfl, .str (S t), rfl, S t, rfl, sz (by omega), _, _, rfl, rfl, m, dr, t.length + 1, by rw [hL]; rfl, hM, by omega, fun H1 r1 e1 M1 h1 => ?_⟩
    refine ⟨sz (show 9 ≤ 10000000 by decide), fun p hp => ⟨.ref m, rfl, m, dr, 9, rfl, M1.ext (T := T) (.new hp), by decide, fun H2 r2 e2 M2 h2 => ?_⟩⟩
    have hlen : bts.length = 9 := rfl
    have hj : bts[r2]? = some (bts[r2]'(by omega)) := List.getElem?_eq_getElem (by omega)
    have hw := bts_ok _ (List.getElem_mem (show r2 < bts.length by omega))
    have hS : V.str (bts[r2]'(by omega)) = V.str (S (tl (bts[r2]'(by omega)))) := by rw [S_tl]
    generalize hx : tl (bts[r2]'(by omega)) = x at hw hS
    refine ⟨p, bts.map V.str, _, .str (S x), rfl, rfl, tupO (e2.tup _ _ upd_same), atI_nat (by rw [List.getElem?_map, hj, ← hS]; rfl), ?_⟩
    refine ⟨.ref m, rfl, m, dr, 3, rfl, M2, by decide, fun H3 r3 e3 M3 h3 => ?_⟩
    have eA : Ex T [m] H H3 := (e1.trans (.new hp)).trans (e2.trans e3)
    have ha : cutS (S t) none (some (r1 : Int)) = S (t.take r1) := cut_0n t r1
    have hb : cutS (S t) (some (r1 : Int)) none = S (t.drop r1) := cut_n0 t r1
    have hc : cutS (S t) (some ((r1 : Int) + 1)) none = S (t.drop (r1 + 1)) := cut_n0 t (r1 + 1)
    have lt : (t.take r1).length ≤ t.length := by rw [List.length_take]; omega
    have l1 : (t.take r1).length + (t.drop r1).length = t.length := by rw [List.length_take, List.length_drop]; omega
    have l2 : (t.take r1).length + (t.drop (r1 + 1)).length ≤ t.length := by rw [List.length_take, List.length_drop]; omega
    refine ⟨_, rfl, rfl, _, rfl, ite2 (fun _ => ?_) (fun _ => ?_)⟩
    · refine ⟨.str (S t), rfl, _, rfl, _, rfl, S t, rfl, sz (by omega), ?_⟩
      rw [ha]
      refine ⟨_, rfl, _, _, rfl, rfl, sz (by rw [len_S, len_S]; omega), ?_⟩
      rw [S_app]
      refine ⟨.str (S t), rfl, _, rfl, _, rfl, S t, rfl, sz (by omega), ?_⟩
      rw [hb]
      refine ⟨_, _, rfl, rfl, sz (by rw [len_S, len_S, List.length_append]; omega), ?_⟩
      rw [S_app]
      exact q _ _ eA M3 (by rw [List.length_append, List.length_append]; omega)
    · refine ⟨_, rfl, rfl, _, rfl, ite2 (fun _ => ?_) (fun _ => ?_)⟩
      · refine ⟨.str (S t), rfl, _, rfl, _, rfl, S t, rfl, sz (by omega), ?_⟩
        rw [ha]
        refine ⟨.str (S t), rfl, _, rfl, _, _, rfl, rfl, _, rfl, S t, rfl, sz (by omega), ?_⟩
        rw [hc]
        refine ⟨_, _, rfl, rfl, sz (by rw [len_S, len_S]; omega), ?_⟩
        rw [S_app]
        exact q _ _ eA M3 (by rw [List.length_append]; omega)
      · refine ⟨.str (S t), rfl, _, rfl, _, rfl, S t, rfl, sz (by omega), ?_⟩
        rw [ha]
        refine ⟨_, rfl, _, _, rfl, rfl, sz (by rw [len_S, len_S]; omega), ?_⟩
        rw [S_app]
        refine ⟨.str (S t), rfl, _, rfl, _, _, rfl, rfl, _, rfl, S t, rfl, sz (by omega), ?_⟩
        rw [hc]
        refine ⟨_, _, rfl, rfl, sz (by rw [len_S, len_S, List.length_append]; omega), ?_⟩
        rw [S_app]
        exact q _ _ eA M3 (by rw [List.length_append, List.length_append]; omega)
end
end W85

set_option Elab.async false
set_option linter.all false
set_option maxRecDepth 100000
set_option maxHeartbeats 16000000
namespace W85
open PySem PySem.Spec PyProof.Rows L2 H85 CwR
open TL (tl)
theorem joinC_le : ∀ ys : List (List Nat), (K85.joinC ys).length ≤ (ys.map List.length).sum + ys.length
  | [] => Nat.le_refl _
  | [a] => by simp [K85.joinC]
  | a :: b :: r => by
    have h := joinC_le (b :: r)
    show (a ++ 44 :: K85.joinC (b :: r)).length ≤ _
    rw [List.length_append, List.length_cons, List.map_cons, List.sum_cons, List.length_cons (as := b :: r)]
    omega
theorem sum_le {k : Nat} : ∀ ns : List Nat, (∀ n ∈ ns, n ≤ k) → ns.sum ≤ k * ns.length
  | [], _ => Nat.zero_le _
  | n :: r, h => by
    have h1 := h n List.mem_cons_self
    have h2 := sum_le r fun x hx => h x (List.mem_cons_of_mem _ hx)
    rw [List.sum_cons, List.length_cons, Nat.mul_succ]
    omega
/-- a line that the law makes -/
def Small (fs : List (List Nat)) : Prop := fs ≠ [] ∧ fs.length ≤ 4 ∧ ∀ f ∈ fs, f.length ≤ 12 ∧ ∀ c ∈ f, K85.pr c = true
theorem Small.good {fs : List (List Nat)} (h : Small fs) : K85.GoodRow fs := ⟨h.1, fun f hf => (h.2.2 f hf).2⟩
theorem Small.len {fs : List (List Nat)} (h : Small fs) : (K85.lineT fs).length ≤ 109 := by
  have h1 := joinC_le (fs.map K85.ft)
  have h2 := sum_le (k := 26) ((fs.map K85.ft).map List.length) (fun n hn => by
    obtain ⟨y, hy, e⟩ := List.mem_map.mp hn
    obtain ⟨f, hf, e2⟩ := List.mem_map.mp hy
    have := (h.2.2 f hf).1
    have := K85.ft_len f
    rw [← e, ← e2]
    omega)
  rw [List.length_map, List.length_map] at h2
  rw [List.length_map] at h1
  have h3 := h.2.1
  have hj : (K85.lineT fs).length = (K85.joinC (fs.map K85.ft)).length + 1 := by simp [K85.lineT]
  omega
theorem wr_small {rows : List (List (List Nat))} (h : ∀ fs ∈ rows, Small fs) (hn : rows.length ≤ 3) : (K85.wr rows).length ≤ 327 := by
  have h2 := sum_le (k := 109) ((rows.map K85.lineT).map List.length) (fun n hn => by
    obtain ⟨y, hy, e⟩ := List.mem_map.mp hn
    obtain ⟨f, hf, e2⟩ := List.mem_map.mp hy
    have := (h f hf).len
    rw [← e, ← e2]
    omega)
  rw [List.length_map, List.length_map] at h2
  have e : ((rows.map K85.lineT).map List.length).sum = (K85.wr rows).length := K85.sum_flat _
  rw [e] at h2
  omega
theorem Ex.drop {T m : Addr} {H H1 H2 : Hp} (e : Ex T [] H H1) (hm : H m = none) (f : Ex T [m] H1 H2) : Ex T [] H H2 :=
  ⟨fun b o _ n h => f.keep b o (fun z => by rw [List.mem_singleton.mp z, hm] at h; cases h) n (e.keep b o (by simp) n h), fun b xs h => f.tup b xs (e.tup b xs h), fun b o u h => f.frz b o u (e.frz b o u h), fun h => f.tab (e.tab h), fun b h => e.free b (f.free b h)⟩
def ods : List Str := [Str.ofString "", Str.ofString "\n", Str.ofString "\"", Str.ofString ",\n", Str.ofString "\"\"\n", Str.ofString "\",\"\n"]
theorem ods_ok : ∀ x ∈ ods, (tl x).length ≤ 100 := by
  have h : (ods.all fun x => decide ((tl x).length ≤ 100)) = true := by decide +kernel
  intro x hx
  exact of_decide_eq_true (List.all_eq_true.mp h x hx)
theorem merge_draws {d : Addr} : mergeK [] [((Sum.inr (Str.ofString "draws") : Key), V.ref d), (Sum.inr (Str.ofString "at"), .int 0)] = kvs_ d 0 := by
  have h1 : ¬ (Sum.inr (Str.ofString "draws") : Key) = Sum.inr (Str.ofString "at") := by decide +kernel
  show putK (putK ([] : List (Key × V)) (Sum.inr (Str.ofString "draws")) (V.ref d)) (Sum.inr (Str.ofString "at")) (.int 0) = _
  unfold putK kvs_
  simp [h1]
section
variable {K : PySem.W.Frag} {T : Addr}
theorem cat_core {v u : V} {acc : List (List (List Nat))} {fs : List (List Nat)} {H : Hp} {Q : VK} {p : Addr} (hp : H p = none) (hR : Rows K H v acc) (hL : Line K H u fs) (hz : acc.length ≤ 1000000)
    (q : ∀ v' H', Ex T [] H H' → Rows K H' v' (acc ++ [fs]) → Q v' H') : rCatA K v (.ref p) (upd H p (.tup [u])) Q := by
  obtain ⟨a, vs, rfl, hS, hl⟩ := hR
  have hn := hl.len
  refine ⟨a, p, _, _, rfl, rfl, (Ex.new (T := T) (M := []) hp).tupS hS, tupO upd_same, sz ?_, fun e => ?_, fun _ e => (by cases e), fun _ _ p3 hp3 => ?_⟩
  · show vs.length + 1 ≤ _
    omega
  · subst e
    cases hl
    exact q _ _ (.new hp) ⟨p, _, rfl, tupO upd_same, .cons (hL.mono (.new (T := T) (M := []) hp)) .nil⟩
  · have e2 := (Ex.new (T := T) (M := []) hp).trans (.new (o := .tup (vs ++ [u])) hp3)
    exact q _ _ e2 ⟨p3, _, rfl, tupO upd_same, (hl.mono e2).snoc (hL.mono e2)⟩
theorem if_var {i j : Nat} {t5 t6 : List Nat} {tt : TT} {σ : L2.St} {H : Hp} {Q : VK} (h5 : σ[i]? = some (some (.str (S t5)))) (h6 : σ[j]? = some (some (.str (S t6)))) (ht : ∀ R : Bool → Hp → Prop, (∀ b H', Ex T [] H H' → R b H') → tt σ H R)
    (q : ∀ t0 H', Ex T [] H H' → (t0 = t5 ∨ t0 = t6) → Q (.str (S t0)) H') : tIf tt (tVar i) (tVar j) σ H Q := by
  refine ht _ fun b H' e => ?_
  cases b
  · exact iteF ⟨_, h6, q t6 H' e (.inr rfl)⟩
  · exact iteT ⟨_, h5, q t5 H' e (.inl rfl)⟩
end
section
variable {P' : Program} {w : World} {K : PySem.W.Frag} {mg : Str → Option Value} {base : Heap} {T C PEa fI cda cc : Addr}
def spLaw (K : PySem.W.Frag) (T : Addr) : Sp := fun vs H Q _ => ∃ (a : Addr) (ns : List Int), vs = [.ref a] ∧ SqL K H a (ns.map V.int) ∧ GxR.TabG H T ∧ ∀ H', Q (.bl true) H'
theorem sc25 : FnScope ["script", "k", "made", "lines", "turn", "text", "bent", "odd", "at"] ["script"] (defScope (topS 25)) := ⟨rfl, rfl, rfl, by decide +kernel, rfl, by decide +kernel, by decide +kernel⟩
structure Cfs (P' : Program) (w : World) (K : PySem.W.Frag) (mg : Str → Option Value) (base : Heap) (T : Addr) : Prop where
  c6 : Cf P' w K mg base 3 "write_commas" (spWr K T)
  c12 : Cf P' w K mg base 1 "_law_cell" (spCell K)
  c13 : Cf P' w K mg base 1 "_law_draws" (spDraws K T)
  c15 : Cf P' w K mg base 5 "_law_is" (spIs K T 3)
  c16 : Cf P' w K mg base 1 "_law_take" (spTake K T)
  c18 : Cf P' w K mg base 2 "_law_lines" (spWr K T)
  c21 : Cf P' w K mg base 6 "_law_told" (spTold K T)
  c22 : Cf P' w K mg base 7 "_law_text_right" (spRight T)
  c23 : Cf P' w K mg base 2 "_law_made_field" (spMField K T)
  c24 : Cf P' w K mg base 2 "_law_bent_text" (spBent K T)
theorem ok_law {f : Addr} {fd : FuncData} (F : FnP K "law" (topS 25) f fd) (c : Cfs P' w K mg base T) (mrange : mg "range" = none) (mtup : mg "tuple" = none) : FnOk P' w K mg base CX0 8 f fd ["script"] (spLaw K T) := by
  obtain ⟨c6, c12, c13, c15, c16, c18, c21, c22, c23, c24⟩ := c
  refine F.ok sc25 (fun vs H Q E h => ?_) (fun cdv A outer s H vs Q E hr h => ?_)
  · obtain ⟨a, ns, rfl, _⟩ := h
    rfl
  · obtain ⟨a, ns, rfl, hS, hT, q⟩ := h
    have rN : ∃ t, PSs (cxOf CX0 P' w K mg base ["script", "k", "made", "lines", "turn", "text", "bent", "odd", "at"] "law" (defScope (topS 25)) f cdv A outer s H E).nox (defBody (topS 25)) t ∧ t { nx := fun _ H' => Q .non H', rt := Q } (start ["script", "k", "made", "lines", "turn", "text", "bent", "odd", "at"] [.ref a]) H := by
      refine ⟨_, pss_cons (ps_for PassesOwn.never rfl (pi_range1 rfl mrange (pa_cons pe_int pa_nil)) (pg_name (i := 1) sc25.nd rfl (.inl rfl))
        (pss_cons (ps_set (i := 2) sc25.nd rfl (.inr rfl) (pe_disp (pps_cons pe_str (pcf c13 hr (by decide) (pa_cons (pcf c12 hr (by decide) (pa_cons (pv 0) (pa_cons (pv 1) pa_nil))) (pa_cons pe_int pa_nil))) (pps_cons pe_str pe_int pps_nil)) (by rfl) (by rfl) (fun z => by cases z) (by decide)))
        (pss_cons (ps_set (i := 3) sc25.nd rfl (.inl rfl) (pe_tup pa_nil))
        (pss_cons (ps_for PassesOwn.never rfl (pi_range1 rfl mrange (pa_cons (pcf c16 hr (by decide) (pa_cons (pv 2) (pa_cons pe_int pa_nil))) pa_nil)) (pg_name (i := 4) sc25.nd rfl (.inl rfl))
          (pss_one (ps_set (i := 3) sc25.nd rfl (.inl rfl) (pe_op op_catA (pv 3) (pe_tup (pa_cons (pe_callTy call_tuple_of (by rfl) mtup PyProof.Rows.boot_tuple (pa_cons
            (pe_lc (own := [("at", 8)]) (g := gName 8) rfl sc25.nd (pi_range1 rfl mrange (pa_cons (pe_op op_add pe_int (pcf c16 hr (by decide) (pa_cons (pv 2) (pa_cons pe_int pa_nil)))) pa_nil))
              (blkOk_by (N := ["script", "k", "made", "lines", "turn", "text", "bent", "odd", "at"]) (sc := defScope (topS 25)) (by decide +kernel)) (fun _ _ _ _ _ => pg_name (i := 8) sc25.nd rfl (Or.inl rfl)) (fun _ _ _ _ _ => pts_nil)
              (fun _ _ _ _ _ => pcf c23 hr (by decide) (pa_cons (pv 2) pa_nil))) pa_nil)) pa_nil))))))
        (pss_cons (ps_set (i := 5) sc25.nd rfl (.inl rfl) (pcf c18 hr (by decide) (pa_cons (pv 3) pa_nil)))
        (pss_cons (ps_if (PW.pt (pw_or (pt_not (pt_val (pcf c15 hr (by decide) (pa_cons (pcf c6 hr (by decide) (pa_cons (pv 3) pa_nil)) (pa_cons (pv 5) pa_nil)))))
            (pw_or1 (pt_not (pt_val (pcf c15 hr (by decide) (pa_cons (pcf c21 hr (by decide) (pa_cons (pv 5) pa_nil)) (pa_cons (pe_tup (pa_cons pe_str (pa_cons (pv 3) pa_nil))) pa_nil)))))))) (pss_one (ps_ret pe_bl)) pss_nil)
        (pss_cons (ps_set (i := 6) sc25.nd rfl (.inl rfl) (pv 5))
        (pss_cons (ps_for PassesOwn.never rfl (pi_range1 rfl mrange (pa_cons pe_int pa_nil)) (pg_name (i := 4) sc25.nd rfl (.inl rfl))
          (pss_cons (ps_set (i := 6) sc25.nd rfl (.inl rfl) (pcf c24 hr (by decide) (pa_cons (pv 2) (pa_cons (pe_ifExp (pt_cmpR (op_inK K) (pv 4) (pe_tup (pa_cons pe_int (pa_cons pe_int (pa_cons pe_int (pa_cons pe_int pa_nil))))) rfl) (pv 5) (pv 6)) pa_nil))))
          (pss_one (ps_if (pt_not (pt_val (pcf c22 hr (by decide) (pa_cons (pv 6) pa_nil)))) (pss_one (ps_ret pe_bl)) pss_nil))))
        (pss_one (ps_for PassesOwn.never rfl (pi_tup (pe_tup (pa_cons pe_str (pa_cons pe_str (pa_cons pe_str (pa_cons pe_str (pa_cons pe_str (pa_cons pe_str pa_nil)))))))) (pg_name (i := 7) sc25.nd rfl (.inl rfl))
          (pss_one (ps_if (pt_not (pt_val (pcf c22 hr (by decide) (pa_cons (pv 7) pa_nil)))) (pss_one (ps_ret pe_bl)) pss_nil)))))))))))) (pss_one (ps_ret pe_bl)), ?_⟩
      refine ⟨_, rfl, by decide, by decide, for_it (walk_range (lo := 0)) (fun i σ H' => ∃ x1 x2 x3 x4 x5 x6 x7 x8 : Option V, σ = [some (.ref a), x1, x2, x3, x4, x5, x6, x7, x8] ∧ Ex T [] H H')
        ⟨none, none, none, none, none, none, none, none, rfl, .refl _⟩ (fun _ _ _ _ _ => trivial) ?_ (fun σ H1 _ => q _)⟩
      rintro i x σ H1 H2 hi ⟨x1, x2, x3, x4, x5, x6, x7, x8, rfl, e2⟩ ⟨eH, rfl⟩
      subst eH
      refine fun m hm => ⟨.ref a, rfl, .int _, rfl, a, ns, i, by rw [Int.zero_add] <;> rfl, ?_, fun z => ⟨z, rfl, fun H3 d ds e3 hd hD hn => ?_⟩⟩
      · exact (e2.trans (.new hm)).lst (by simp) hS
      refine ⟨?_, [(Sum.inr (Str.ofString "draws"), V.ref d), (Sum.inr (Str.ofString "at"), .int 0)], rfl, by show 2 ≤ 15; decide, ?_⟩
      · exact e3.keep _ _ (by simp) (fun _ z => by cases z) upd_same
      rw [merge_draws]
      have hmH : H m = none := e2.back hm
      have e4 : Ex T [] H (upd H3 m (.dK (kvs_ d 0))) := ((e2.trans (.new hm)).trans e3).mut hmH
      have hdm : m ≠ d := ne_of_none upd_same hd
      have M4 : Made K (upd H3 m (.dK (kvs_ d 0))) m d := ⟨0, ds, upd_same, lstO (by rw [upd_ne (Ne.symm hdm)]; exact hD), hn, Ne.symm hdm⟩
      refine ⟨sz (Nat.zero_le _), fun p0 hp0 => ?_⟩
      have e5 := e4.trans (.new (T := T) (M := []) (o := .tup []) hp0)
      have M5 := M4.ext (T := T) (.new (o := .tup []) hp0)
      refine ⟨.ref m, rfl, m, d, 4, rfl, M5, by decide, fun H6 r e6 M6 hr4 => ?_⟩
      refine ⟨_, rfl, by omega, by omega, for_it (walk_range (lo := 0)) (fun j σ H' => ∃ (x4 : Option V) (v : V) (rows : List (List (List Nat))), σ = [some (.ref a), some (.int ((0 : Int) + (i : Int))), some (.ref m), some v, x4, x5, x6, x7, x8] ∧ Ex T [] H H' ∧ Made K H' m d ∧ Rows K H' v rows ∧ rows.length = j ∧ ∀ fs ∈ rows, Small fs)
        ⟨x4, .ref p0, [], rfl, e5.drop hmH e6, M6, ⟨p0, [], rfl, tupO (e6.tup _ _ upd_same), .nil⟩, rfl, by simp⟩ (fun _ _ _ _ _ => trivial) ?_ ?_⟩
      · rintro j x σ H7 H8 hj ⟨x4, v, rows, rfl, e7, M7, hR, hrn, hrs⟩ ⟨eH, rfl⟩
        subst eH
        refine ⟨v, rfl, .ref m, rfl, m, d, 4, rfl, M7, by decide, fun H9 r2 e9 M9 h2 => ⟨_, _, rfl, rfl, _, rfl, by omega, by omega, fun l hl => lc_it (walk_range (lo := 0)) (fun i H' => ∃ fs : List (List Nat), Ex T [m] H9 H' ∧ Made K H' m d ∧ H' l = some (.lst (fs.map fun f => V.str (S f))) ∧ fs.length = i ∧ ∀ f ∈ fs, f.length ≤ 12 ∧ ∀ c ∈ f, K85.pr c = true)
          ⟨[], .new hl, M9.ext (T := T) (.new hl), upd_same, rfl, by simp⟩ (fun _ _ _ _ => trivial) ?_ ?_⟩⟩
        · rintro k y Ha Hb hk ⟨fs, f1, f2, fD, fn, fp⟩ ⟨rfl, rfl⟩
          refine ⟨rfl, yes ⟨.ref m, rfl, m, d, rfl, f2, fun Hc f g1 g2 g3 g4 => ?_⟩⟩
          have hlm := M9.no hl
          have hl4 := g1.keep _ _ hlm ntL fD
          refine ⟨_, hl4, szl (by rw [List.length_map]; omega), fs ++ [f], (f1.trans g1).mut hl, M9.mut hl (f1.trans g1) g2, ?_, by simp [fn], fun y hy => ?_⟩
          · rw [upd_same, List.map_append]
            rfl
          · rcases List.mem_append.mp hy with h | h
            · exact fp y h
            · rw [List.mem_singleton.mp h]
              exact ⟨g3, g4⟩
        · rintro Ha ⟨fs, f1, f2, fD, fn, fp⟩
          refine ⟨l, _, rfl, .inl ⟨lstO fD, fun p hp => ⟨sz (show 1 ≤ 10000000 by decide), fun p2 hp2 => cat_core (T := T) hp2 (hR.mono (e9.trans (f1.trans (.new hp)))) ⟨p, rfl, tupO upd_same⟩ (by omega) fun v' Hd g1 g2 => ?_⟩⟩⟩
          have n1 : (1 + (r2 : Int)).toNat = r2 + 1 := by omega
          rw [n1] at fn
          have M10 := f2.ext (T := T) (.new (o := .tup (fs.map fun f => V.str (S f))) hp)
          refine ⟨some (.int ((0 : Int) + (j : Int))), v', rows ++ [fs], rfl, e7.drop hmH (e9.trans (f1.trans ((Ex.new hp).trans g1.wide))), M10.ext g1, g2, by simp [hrn], fun y hy => ?_⟩
          rcases List.mem_append.mp hy with h | h
          · exact hrs y h
          · rw [List.mem_singleton.mp h]
            refine ⟨fun z => ?_, by omega, fp⟩
            rw [z] at fn
            cases fn
      rintro σ H7 ⟨x4, v, rows, rfl, e7, M7, hR, hrn, hrs⟩
      have hn3 : rows.length ≤ 3 := by
        have : (r : Int).toNat = r := rfl
        omega
      have hw := wr_small hrs hn3
      have hrd : K85.read (K85.wr rows) = .ok rows := K85.read_wr fun fs h => (hrs fs h).good
      refine ⟨v, rfl, v, rows, rfl, hR, by omega, fun H8 e8 => ?_⟩
      -- the text written, read
      refine ⟨v, rfl, v, rows, rfl, hR.mono e8, by omega, fun H9 e9 => ⟨_, rfl, _, _, rfl, .str _, fun Ha ea => ⟨true, rfl, iteF ?_⟩⟩⟩
      have eb := (e8.trans e9).trans ea
      refine ⟨_, rfl, K85.wr rows, rfl, by omega, (e7.trans eb).tab hT, fun n hn2 => ?_, fun rows2 hr2 Hb p v2 eb2 hp hv2 => ?_⟩
      · rw [hrd] at hn2
        cases hn2
      rw [hrd] at hr2
      cases hr2
      refine ⟨v, rfl, sz (show 2 ≤ 10000000 by decide), fun p2 hp2 => ⟨_, _, rfl, ?_, fun Hc ec => ⟨true, rfl, iteF ?_⟩⟩⟩
      · have e4 := Ex.new (T := T) (M := []) (o := .tup [.str (Str.ofString "told"), v]) hp2
        refine .tup (e4.tupS (tupO hp)) (tupO upd_same) rfl (by show 2 ≤ 100000; decide) fun i x y hx hy => ?_
        match i, hx, hy with
        | 0, hx, hy =>
          cases hx
          cases hy
          exact .str _
        | 1, hx, hy =>
          cases hx
          cases hy
          exact rows_same (n := 0) (hv2.mono e4) ((hR.mono (eb.trans eb2)).mono e4) (by omega)
      have ed := (eb.trans eb2).trans ((Ex.new (T := T) (M := []) (o := .tup [.str (Str.ofString "told"), v]) hp2).trans ec)
      have Md := M7.ext ed
      refine ⟨_, rfl, ?_⟩
      refine ⟨_, rfl, by decide, by decide, for_it (walk_range (lo := 0)) (fun j σ H' => ∃ (x4 : Option V) (t' : List Nat), σ = [some (.ref a), some (.int ((0 : Int) + (i : Int))), some (.ref m), some v, x4, some (.str (S (K85.wr rows))), some (.str (S t')), x7, x8] ∧ Ex T [] H H' ∧ Made K H' m d ∧ t'.length ≤ 327 + 3 * j)
        ⟨x4, K85.wr rows, rfl, e7.trans ed, Md, by omega⟩ (fun _ _ _ _ _ => trivial) ?_ ?_⟩
      · rintro j x σ He Hf hj ⟨x4, t', rfl, ee, Me, ht'⟩ ⟨eH, rfl⟩
        subst eH
        have hj16 : j < 16 := hj
        refine ⟨.ref m, rfl, if_var (T := T) rfl rfl (fun R hR2 => ⟨_, rfl, sz (show 4 ≤ 10000000 by decide), fun p hp => ⟨p, _, rfl, .inr (tupO upd_same), rfl, rfl, _, rfl, hR2 _ _ (.new hp)⟩⟩) fun t0 Hg eg ht0 => ?_⟩
        have hl0 : t0.length ≤ 327 + 3 * j := by
          rcases ht0 with h | h
          · rw [h]
            omega
          · rw [h]
            exact ht'
        refine ⟨m, d, t0, rfl, Me.ext eg, by omega, fun Hh t2 eh Mh hl2 => ?_⟩
        have ei := (ee.trans eg).drop hmH eh
        exact ⟨_, rfl, t2, rfl, by omega, ei.tab hT, fun Hi ej => ⟨true, rfl, iteF ⟨_, t2, rfl, ei.trans ej, Mh.ext ej, by omega⟩⟩⟩
      · rintro σ He ⟨x4, t', rfl, ee, Me, ht'⟩
        refine ⟨sz (show 6 ≤ 10000000 by decide), fun p hp => ⟨p, rfl, ⟨_, tupO upd_same⟩, for_it (walk_tup (K := K) (a := p) (xs := ods.map V.str)) (fun j σ H' => ∃ x7 : Option V, σ = [some (.ref a), some (.int ((0 : Int) + (i : Int))), some (.ref m), some v, x4, some (.str (S (K85.wr rows))), some (.str (S t')), x7, x8] ∧ Ex T [] H H' ∧ H' p = some (.tup (ods.map V.str)))
          ⟨x7, rfl, ee.trans (.new hp), upd_same⟩ (fun _ _ _ _ h => ?_) ?_ ?_⟩⟩
        · obtain ⟨_, _, _, h⟩ := h
          exact tupO h
        · rintro j x σ Hf Hg hj ⟨x7, rfl, ef, hpf⟩ ⟨rfl, hx⟩
          rw [List.getElem?_map] at hx
          cases ho : ods[j]? with
          | none =>
            rw [ho] at hx
            cases hx
          | some o =>
            rw [ho] at hx
            have z : V.str o = x := Option.some.inj hx
            subst z
            have hlo := ods_ok o (List.mem_of_getElem? ho)
            refine ⟨_, rfl, tl o, by rw [S_tl] <;> rfl, by omega, ef.tab hT, fun Hi ej => ⟨true, rfl, iteF ⟨_, rfl, ef.trans ej, ej.tup _ _ hpf⟩⟩⟩
        · rintro σ Hf ⟨x7, rfl, ef, _⟩
          exact ⟨_, _, _, _, _, _, _, _, rfl, ef⟩
    obtain ⟨t, h1, h2⟩ := rN
    exact ⟨t, h1.nox, h2⟩
end
end W85

set_option Elab.async false
set_option linter.all false
set_option maxRecDepth 100000
set_option maxHeartbeats 4000000
namespace BadH
open PySem PySem.Spec PyProof.Rows L2 He
theorem clsB_ok {K : PySem.W.Frag} {C : Addr} (h : clsB K C = true) : ∃ nm q N bs bm sn sub ab col dd k0 k1 k2 k3 k5, K.lookup C = some (excClassObj nm q C N bs bm true sn sub ab col dd k0 k1 k2 k3 k5 "ValueError.__new__") ∧ PySem.HandSPX.refsVE bm = true := by
  unfold clsB at h
  split at h
  · rename_i dd cd sl hK
    split at h
    · rename_i C' bm s0 s1 s2 s3 n s5 hm hs
      obtain ⟨h1, h⟩ := ba h
      obtain ⟨h2, h⟩ := ba h
      obtain ⟨h3, h⟩ := ba h
      obtain ⟨h4, h5⟩ := ba h
      have e1 := of_decide_eq_true h1
      have e2 := of_decide_eq_true h2
      subst e1 e2
      obtain ⟨nm, bs, mro, N, q, hd, sn, sub, ab, col, del⟩ := cd
      dsimp only at hm h3 h4
      subst hm
      have e3 : del = false := by simpa using h3
      subst e3 h4
      obtain ⟨l⟩ := sl
      dsimp only at hs
      subst hs
      exact ⟨_, _, _, _, _, _, _, _, _, _, _, _, _, _, _, hK, h5⟩
    · cases h
  · cases h
end BadH
namespace BadH
open PySem PySem.Spec PyProof.Rows L2 He
theorem initB_ok {P : Program} {K : PySem.W.Frag} {C f : Addr} {n q' q : Str} {pa : Arguments} {b : List Stmt} {sc : Scope} (h : initB P K C f q = true) (hi : inObs K f = (some (n, q', pa, FuncBody.stmts b, sc, mainGlobals, ["__class__"], builtinsNs) : InV)) :
    ∃ cda cc, (∃ cl cld csl, K.lookup cc = some ⟨cl, cld, .cell (some (.ref C)), csl⟩) ∧ (∃ ccl cdd vs ccs file tf, K.lookup cda = some ⟨ccl, cdd, .fields vs, ccs⟩ ∧ (vs[2]? : Option Value) = some (.str file tf) ∧ ((P.main.file : Str) == file) = true) ∧ PySem.W.codeIn K (.ref cda) q = true ∧
      ∃ oc od doc pm an ct osl, K.lookup f = some ⟨oc, od, .func (PySem.W.ksFn n q' pa b sc .none .none doc pm an (.ref cda) ct cc), osl⟩ := by
  unfold initB at h
  unfold inObs at hi
  split at h
  · rename_i oc od fd osl hK
    rw [hK] at hi
    have hi2 : (some (fd.name, fd.qualname, fd.params, fd.body, fd.scope, fd.globals, fd.closure.map (·.1), fd.builtins) : InV) = (some (n, q', pa, FuncBody.stmts b, sc, mainGlobals, ["__class__"], builtinsNs) : InV) := hi
    split at h
    · rename_i nm cc cda h1 h2 h3 h4
      obtain ⟨g1, h⟩ := ba h
      obtain ⟨g2, g3⟩ := ba h
      obtain ⟨f1, f2, f3, f4, f5, f6, f7, f8, f9, f10, f11, f12, f13, f14, f15⟩ := fd
      dsimp only at h1 h2 h3 h4 hi2
      subst h1 h2 h3 h4
      have e0 := Option.some.inj hi2
      simp only [Prod.mk.injEq, List.map_cons, List.map_nil, List.cons.injEq, and_true] at e0
      obtain ⟨e1, e2, e3, e4, e5, e6, e7, e8⟩ := e0
      subst e1 e2 e3 e4 e5 e6 e7 e8
      refine ⟨cda, cc, ?_, ?_, g1, oc, od, f10, f11, f12, f14, osl, hK⟩
      · split at g2
        · rename_i a1 a2 D a3 ha
          have := of_decide_eq_true g2
          subst this
          exact ⟨_, _, _, ha⟩
        · cases g2
      · split at g3
        · rename_i a1 a2 vs a3 ha
          split at g3
          · rename_i file tf hv
            exact ⟨_, _, vs, _, file, tf, ha, hv, g3⟩
          · cases g3
        · cases g3
    · cases h
  · cases h
end BadH
namespace H85
open PySem PySem.Spec PyProof.Rows L2 He BadH
def iu : Str := "line "
def iv_ : Str := " has not the told form"
theorem iScope : PySem.BadX.IScope (defScope sInit) := ⟨rfl, rfl, rfl, by decide +kernel, by decide +kernel, by decide +kernel, by decide +kernel, by decide +kernel⟩
theorem iBody : defBody sInit = PySem.BadX.iB "line " " has not the told form" 0 0 ⟨7, 8, 7, 13⟩ ⟨7, 8, 7, 15⟩ ⟨7, 8, 7, 24⟩ ⟨7, 27, 7, 32⟩ ⟨7, 33, 7, 37⟩ ⟨7, 32, 7, 38⟩ ⟨7, 38, 7, 60⟩ ⟨7, 25, 7, 61⟩ ⟨7, 8, 7, 62⟩ ⟨7, 8, 7, 62⟩ ⟨8, 8, 8, 12⟩ ⟨8, 8, 8, 17⟩ ⟨8, 20, 8, 24⟩ ⟨8, 8, 8, 24⟩ := by rfl
theorem iArgs : defArgs sInit = PySem.BadX.iA ⟨6, 17, 6, 21⟩ ⟨6, 23, 6, 27⟩ := by rfl
theorem iRead : PySem.BadX.IRead (defScope sInit) "line " " has not the told form" 0 0 ⟨7, 8, 7, 13⟩ ⟨7, 8, 7, 15⟩ ⟨7, 8, 7, 24⟩ ⟨7, 27, 7, 32⟩ ⟨7, 33, 7, 37⟩ ⟨7, 32, 7, 38⟩ ⟨7, 38, 7, 60⟩ ⟨7, 25, 7, 61⟩ ⟨7, 8, 7, 62⟩ ⟨7, 8, 7, 62⟩ ⟨8, 8, 8, 12⟩ ⟨8, 8, 8, 17⟩ ⟨8, 20, 8, 24⟩ ⟨8, 8, 8, 24⟩ := by
  refine ⟨fun _ _ _ _ => ?_, fun _ _ _ _ => ?_, fun _ _ _ _ => ?_, fun _ _ _ _ => ?_, fun _ _ _ _ => ?_⟩
  · rfl
  · rfl
  · rfl
  · rfl
  · rfl
end H85
namespace H85
open PySem PySem.Spec PyProof.Rows L2 He BadH W85
section
variable {w : World} {K : PySem.W.Frag} {h : Heap} {mg : Str → Option Value}
theorem badTxt (e : ex K = true) (hi : inObs K (io K) = iv) (gS : mg "super" = none) : ∃ cda cc, PySem.BadX.BadTxt PW K mg (ga K "BadLine") (ma K (ga K "BadLine") "__init__") cda cc := by
  obtain ⟨e, _⟩ := ba e
  unfold badB at e
  obtain ⟨b1, e⟩ := ba e
  obtain ⟨b2, e⟩ := ba e
  obtain ⟨b3, e⟩ := ba e
  obtain ⟨b4, e⟩ := ba e
  obtain ⟨b5, e⟩ := ba e
  obtain ⟨b6, e⟩ := ba e
  obtain ⟨b7, e⟩ := ba e
  obtain ⟨b8, e⟩ := ba e
  obtain ⟨b9, e⟩ := ba e
  obtain ⟨b10, e⟩ := ba e
  obtain ⟨b11, e⟩ := ba e
  obtain ⟨b12, b13⟩ := ba e
  obtain ⟨cda, cc, g1, g2, g3, oc, od, doc, pm, an, ct, osl, g4⟩ := initB_ok b13 hi
  rw [iBody, iArgs] at g4
  exact ⟨cda, cc, clsB_ok b1, eqO_ok b2, eqO_ok b3, eqO_ok b4, of_decide_eq_true b5, b6, of_decide_eq_true b7, of_decide_eq_true b8, of_decide_eq_true b9, of_decide_eq_true b10, eqO_ok b11, eqO_ok b12, gS, g1, g2, by rfl,
    ⟨oc, od, doc, pm, an, ct, osl, _, _, _, _, _, _, _, _, _, _, _, _, _, _, _, _, _, _, _, _, _, g4, g3, iScope, by decide +kernel, by decide +kernel, iRead⟩⟩
theorem badIs (e : ex K = true) : L2.BadIs K (ga K "BadLine") (ga K "PlaidworkError") := by
  obtain ⟨e0, e⟩ := ba e
  unfold badB at e0
  obtain ⟨b1, e0⟩ := ba e0
  obtain ⟨b2, e0⟩ := ba e0
  obtain ⟨b3, e0⟩ := ba e0
  obtain ⟨b4, e0⟩ := ba e0
  obtain ⟨b5, e0⟩ := ba e0
  obtain ⟨b6, e0⟩ := ba e0
  obtain ⟨b7, e0⟩ := ba e0
  unfold isB at e
  obtain ⟨c1, e⟩ := ba e
  obtain ⟨c2, e⟩ := ba e
  obtain ⟨c3, e⟩ := ba e
  obtain ⟨c4, e⟩ := ba e
  obtain ⟨c5, e⟩ := ba e
  obtain ⟨c6, e⟩ := ba e
  obtain ⟨c7, e⟩ := ba e
  obtain ⟨c8, c9⟩ := ba e
  exact ⟨eqO_ok c1, eqO_ok c2, of_decide_eq_true b7, c3, eqO_ok b3, eqO_ok c4, eqO_ok c5, of_decide_eq_true c6, of_decide_eq_true c7, of_decide_eq_true c8, of_decide_eq_true c9⟩
theorem dat (X : K.In h) (G : h.Ns mainGlobals mg) (c : SaysD fa fn K) (j : Nat) {x : Str} {i : Nat} (hd : fn[j]? = some (dd x i) := by rfl) (hg : fa[j]? = some (.glo x) := by rfl) : DefAt K mg x (topS i) := by
  obtain ⟨fd, F⟩ := c.def_ j hd
  exact ⟨_, fd, F, glo_ok X G (c.fact j hg)⟩
theorem law85 {f : Addr} (X : K.In h) (G : h.Ns mainGlobals mg) (hf : mg ("law" : Str) = some (.ref f)) (c : SaysY fa fn tf ex io iv w h K) : LamX.LawAtS PySem.Challenge.rw_plaidwork_k85_whole_comma_parted_texts w K CX0 8 63 "script" mg f h := by
  have cd := c.x.t.d
  obtain ⟨fd, F⟩ := cd.def_ 20 (d := dd "law" 25) rfl
  have e := hf.symm.trans (glo_ok X G (cd.fact 20 (f := .glo "law") rfl))
  cases e
  have g : ∀ (j : Nat) {x : Str}, fa[j]? = some (.free x) → mg x = none := fun j x hj => free_ok X G (cd.fact j hj)
  have mlen := g 23 (x := "len") rfl
  have mall := g 24 (x := "all") rfl
  have menum := g 25 (x := "enumerate") rfl
  have mtup := g 26 (x := "tuple") rfl
  have mabs := g 27 (x := "abs") rfl
  have mint := g 28 (x := "int") rfl
  have mrange := g 29 (x := "range") rfl
  have misi := g 30 (x := "isinstance") rfl
  have mbool := g 31 (x := "bool") rfl
  have mstr := g 32 (x := "str") rfl
  have mval := g 33 (x := "ValueError") rfl
  have msup := g 34 (x := "super") rfl
  have gC := glo_ok X G (cd.fact 21 (f := .glo "BadLine") rfl)
  have gP := glo_ok X G (cd.fact 22 (f := .glo "PlaidworkError") rfl)
  have eP := exm_ok (cd.fact 35 (f := .exm "BadLine" "BadLine" true) rfl)
  obtain ⟨cda, cc, BT⟩ := badTxt (mg := mg) c.x.more c.i msup
  have BI := badIs c.x.more
  have b := FunD.bindsA (ps := ["script"]) F fun _ _ _ _ _ _ us hl => match us, hl with | [_], _ => rfl
  refine ⟨fd, tf.map (cT K), spLaw K (cT K ("fields_of", none)).2, fun p hp => ?_, fun p hp => ?_, fun p hp => ?_, fun s u => b s [u] rfl, fun H a ns _ _ ht hS => ⟨a, ns, rfl, hS, ⟨#[], ht _ (List.mem_map_of_mem (f := cT K) List.mem_cons_self), trivial⟩, fun _ => rfl⟩, fun base _ _ hB => ?_⟩
  · obtain ⟨q, hq, e⟩ := List.mem_map.mp hp
    rw [← e]
    exact c.x.empty q hq
  · obtain ⟨q, hq, e⟩ := List.mem_map.mp hp
    rw [← e]
    exact c.x.out q hq
  · obtain ⟨q, hq, e⟩ := List.mem_map.mp hp
    rw [← e]
    exact PySem.W.codeHd_of_K X (c.x.hd q hq)
  · have hb := hB _ (List.mem_map_of_mem (f := cT K) (List.mem_cons_self (a := (("fields_of", none) : Defn)) (l := [])))
    have TB : GxR.TabB base mg (codeOf K ("fields_of", none)) (cT K ("fields_of", none)).2 := ⟨hb.code, hb.bm, hb.gP⟩
    have c4 := ok_plain (P := PW) (w := w) (base := base) (dat X G cd 0)
    have c5 := ok_ft (dat X G cd 1) c4
    have c6 := ok_write (T := (cT K ("fields_of", none)).2) (dat X G cd 2) c5
    have c7 := ok_closed (P := PW) (w := w) (base := base) (dat X G cd 3) mlen
    have c8 := ok_bare (P := PW) (w := w) (base := base) (dat X G cd 4) mlen
    obtain ⟨fd9, F9⟩ := cd.def_ 5 (d := dd "fields_of" 9) rfl
    have c9 := ok_fields F9 (glo_ok X G (cd.fact 5 (f := .glo "fields_of") rfl)) TB c5 c7 c8 mlen mall mtup
    have c10 := ok_read (dat X G cd 6) BT gC c9 mlen menum mtup
    have c12 := ok_cell (P' := PW) (w := w) (base := base) (dat X G cd 7) mlen
    have c13 := ok_draws (P' := PW) (w := w) (base := base) (T := (cT K ("fields_of", none)).2) (dat X G cd 8) mabs mint mrange
    have c14 := ok_isint (P' := PW) (w := w) (base := base) (dat X G cd 9) misi mint mbool
    have c15 := ok_is (T := (cT K ("fields_of", none)).2) (dat X G cd 10) c14 misi mint mbool mstr mtup mlen mall mrange 3
    have c16 := ok_take (P' := PW) (w := w) (base := base) (T := (cT K ("fields_of", none)).2) (dat X G cd 11) mlen mint
    have c17 := ok_lfield (P := PW) (w := w) (base := base) (T := (cT K ("fields_of", none)).2) (dat X G cd 12) mlen
    have c18 := ok_llines (dat X G cd 13) c17
    have c19 := ok_lfields (dat X G cd 14) c17
    have c20 := ok_lread (dat X G cd 15) c19 mlen mrange
    have c21 := ok_told (dat X G cd 16) BI eP gC gP c10 misi mval
    have c22 := ok_right (dat X G cd 17) c20 c21 c15 c6 misi mint
    have c23 := ok_mfield (dat X G cd 18) c16 mrange
    have c24 := ok_bent (dat X G cd 19) c16 mlen
    exact ok_law F ⟨c6, c12, c13, c15, c16, c18, c21, c22, c23, c24⟩ mrange mtup
end
end H85

set_option Elab.async false
set_option linter.all false
set_option maxRecDepth 100000
set_option maxHeartbeats 0
open PySem PySem.W PySem.Calls PyProof.Rows
theorem PySem.Challenge.cw_plaidwork_k85_whole_comma_parted_texts_holds : PySem.Challenge.rw_plaidwork_k85_whole_comma_parted_texts.Holds := by
  w_on; o_law
  refine HandSHeadRun.head_any (r := OpenLaw.row PySem.Challenge.rw_plaidwork_k85_whole_comma_parted_texts) (q := view (OpenLaw.row PySem.Challenge.rw_plaidwork_k85_whole_comma_parted_texts).prog [25]) (H := H85.hk) (ob := H85.ob) (M := 1500) (loose := H85.loose) (d := HandSHeadRun.topDef (OpenLaw.row PySem.Challenge.rw_plaidwork_k85_whole_comma_parted_texts).prog 25) (kwd := []) H85.ob_eq
    (by kernel_rfl) (fun s => by kernel_rfl) H85.run (by kernel_rfl) (by kernel_rfl) (by kernel_rfl) (by rfl) (by first | assumption | decide +kernel) (by decide +kernel) ⟨rfl, rfl, rfl, rfl, rfl, by decide +kernel⟩ ?hw ?hc
  case hw => w_witness2
  case hc =>
    refine LamX.walk_ofTsE (l := PySem.Challenge.rw_plaidwork_k85_whole_comma_parted_texts) (n := 63) (k := 8) (x := "script") (CX := fun _ => L2.CX0) rfl (by decide) (by kernel_rfl) ⟨rfl, by decide, by decide⟩ ?F (fun _ _ _ _ _ z => z)
    intro w mg fa h Y G hmg0
    obtain ⟨K, KX, c⟩ := Y
    have hmg : mg ("law" : PySem.Str) = some (.ref fa) := by
      have e : (HandSHeadRun.topDef (OpenLaw.row PySem.Challenge.rw_plaidwork_k85_whole_comma_parted_texts).prog 25).name = ("law" : PySem.Str) := by kernel_rfl
      rw [← e]
      exact hmg0
    exact ⟨K, KX, H85.law85 KX G hmg c⟩

