import PyProof.Rows.All
import Wide.All
import OpenK.AllK
import Wide.FinOn
import HandS.ForMost
import HandS.Codes
import HandS.IsInst
import HandS.DictComp
import HandS.WideBits
import HandS.TupAny
import HandS.TupSets
import HandS.Strs
import HandS.SetFor
import HandS.Conv
import HandS.Zip
import HandS.Walk
import HandS.Wide
import PySem.Challenge.RW_lastoflot_k71_whole_quiet_ends_of_looks
import KE.GoesEnum
import KE.DataMinMax
import KE.SortData
import HandS.Set
set_option Elab.async false
set_option linter.all false
set_option maxRecDepth 100000
set_option maxHeartbeats 4000000
/-! Plain mathematics of offices: crowds as bits, who is let in, looks. No program in sight. -/
namespace Lk

/-- the bits of a crowd -/
def bn (ns : List Nat) : Nat := (ns.map fun p => 2 ^ p).sum
/-- the crowd of some bits (below 4096) -/
def cr (m : Nat) : List Nat := (List.range 12).filter fun p => m.testBit p
/-- a crowd of n people -/
def Cr (n : Nat) (ns : List Nat) : Prop := (∀ x ∈ ns, x < n) ∧ ns.Pairwise (· < ·)

theorem Cr.tail {n x : Nat} {r : List Nat} (h : Cr n (x :: r)) : Cr n r :=
  ⟨fun y hy => h.1 y (List.mem_cons_of_mem _ hy), (List.pairwise_cons.mp h.2).2⟩
theorem Cr.nodup {n : Nat} {ns : List Nat} (h : Cr n ns) : ns.Nodup := h.2.imp fun hab => Nat.ne_of_lt hab
theorem Cr.mono {n k : Nat} {ns : List Nat} (h : Cr n ns) (hk : n ≤ k) : Cr k ns := ⟨fun x hx => Nat.lt_of_lt_of_le (h.1 x hx) hk, h.2⟩

theorem bn_nil : bn [] = 0 := rfl
theorem bn_cons (p : Nat) (r : List Nat) : bn (p :: r) = 2 ^ p + bn r := by
  show ((p :: r).map _).sum = _
  rw [List.map_cons, List.sum_cons]
  rfl
theorem bn_mul {p : Nat} : ∀ {r : List Nat}, (∀ x ∈ r, p < x) → ∃ a, bn r = 2 ^ (p + 1) * a
  | [], _ => ⟨0, rfl⟩
  | x :: r, h => by
    obtain ⟨a, ha⟩ := bn_mul (r := r) fun y hy => h y (List.mem_cons_of_mem _ hy)
    have hx : p < x := h x List.mem_cons_self
    refine ⟨2 ^ (x - (p + 1)) + a, ?_⟩
    rw [bn_cons, ha, Nat.mul_add, ← Nat.pow_add]
    congr 2
    omega
theorem bn_or {p : Nat} {r : List Nat} (h : ∀ x ∈ r, p < x) : bn (p :: r) = bn r ||| 2 ^ p := by
  obtain ⟨a, ha⟩ := bn_mul h
  have hl : 2 ^ p < 2 ^ (p + 1) := Nat.pow_lt_pow_right (by decide) (Nat.lt_succ_self p)
  rw [bn_cons, ha, Nat.add_comm]
  exact Nat.two_pow_add_eq_or_of_lt hl a
theorem testBit_bn : ∀ {ns : List Nat} (_ : ns.Pairwise (· < ·)) (k : Nat), (bn ns).testBit k = decide (k ∈ ns)
  | [], _, k => by simp [bn_nil]
  | p :: r, h, k => by
    obtain ⟨h1, h2⟩ := List.pairwise_cons.mp h
    rw [bn_or h1, Nat.testBit_or, testBit_bn h2 k, Nat.testBit_two_pow, ← Bool.decide_or]
    exact decide_eq_decide.mpr ⟨fun z => z.elim (fun z => List.mem_cons_of_mem _ z) (fun z => z ▸ List.mem_cons_self),
      fun z => (List.mem_cons.mp z).elim (fun e => Or.inr e.symm) Or.inl⟩
theorem mem_cr {m k : Nat} : k ∈ cr m ↔ k < 12 ∧ m.testBit k = true := by
  unfold cr
  rw [List.mem_filter, List.mem_range]
theorem cr_pw (m : Nat) : (cr m).Pairwise (· < ·) := List.Pairwise.filter _ List.pairwise_lt_range
theorem bit_lt {m n k : Nat} (h : m < 2 ^ n) (hk : m.testBit k = true) : k < n := by
  rcases Nat.lt_or_ge k n with c | c
  · exact c
  · rw [Nat.testBit_lt_two_pow (Nat.lt_of_lt_of_le h (Nat.pow_le_pow_right (by decide) c))] at hk
    cases hk
theorem cr_ok {m n : Nat} (h : m < 2 ^ n) : Cr n (cr m) := ⟨fun _ hx => bit_lt h (mem_cr.mp hx).2, cr_pw m⟩
/-- two ascending lists with the same members -/
theorem pw_ext : ∀ {a b : List Nat}, a.Pairwise (· < ·) → b.Pairwise (· < ·) → (∀ x, x ∈ a ↔ x ∈ b) → a = b
  | [], [], _, _, _ => rfl
  | [], y :: b, _, _, h => nomatch (h y).mpr List.mem_cons_self
  | x :: a, [], _, _, h => nomatch (h x).mp List.mem_cons_self
  | x :: a, y :: b, ha, hb, h => by
    obtain ⟨a1, a2⟩ := List.pairwise_cons.mp ha
    obtain ⟨b1, b2⟩ := List.pairwise_cons.mp hb
    have e : x = y := by
      rcases List.mem_cons.mp ((h x).mp List.mem_cons_self) with e | hx
      · exact e
      · rcases List.mem_cons.mp ((h y).mpr List.mem_cons_self) with e | hy
        · exact e.symm
        · exact absurd (Nat.lt_trans (a1 y hy) (b1 x hx)) (Nat.lt_irrefl _)
    subst e
    have t : a = b := pw_ext a2 b2 fun z => ⟨fun hz => by
        rcases List.mem_cons.mp ((h z).mp (List.mem_cons_of_mem _ hz)) with e | q
        · exact absurd (a1 z hz) (by rw [e]; exact Nat.lt_irrefl _)
        · exact q, fun hz => by
        rcases List.mem_cons.mp ((h z).mpr (List.mem_cons_of_mem _ hz)) with e | q
        · exact absurd (b1 z hz) (by rw [e]; exact Nat.lt_irrefl _)
        · exact q⟩
    rw [t]
theorem bn_lt {n : Nat} {ns : List Nat} (h : Cr n ns) : bn ns < 2 ^ n := by
  refine Nat.lt_pow_two_of_testBit _ fun i hi => ?_
  rw [testBit_bn h.2]
  exact decide_eq_false fun z => absurd (h.1 i z) (by omega)
theorem cr_bn {n : Nat} {ns : List Nat} (h : Cr n ns) (hn : n ≤ 12) : cr (bn ns) = ns := by
  refine pw_ext (cr_pw _) h.2 fun x => ?_
  rw [mem_cr, testBit_bn h.2, decide_eq_true_eq]
  exact ⟨fun z => z.2, fun z => ⟨Nat.lt_of_lt_of_le (h.1 x z) hn, z⟩⟩
theorem bn_cr {m : Nat} (h : m < 4096) : bn (cr m) = m := by
  refine Nat.eq_of_testBit_eq fun k => ?_
  rw [testBit_bn (cr_pw m)]
  cases e : m.testBit k with
  | true => exact decide_eq_true (mem_cr.mpr ⟨bit_lt (n := 12) h e, e⟩)
  | false =>
    refine decide_eq_false fun z => ?_
    rw [(mem_cr.mp z).2] at e
    cases e
theorem bn_inj {n : Nat} {a b : List Nat} (ha : Cr n a) (hb : Cr n b) (e : bn a = bn b) : a = b :=
  pw_ext ha.2 hb.2 fun x => by
    have q := testBit_bn ha.2 x
    rw [e, testBit_bn hb.2] at q
    exact (decide_eq_decide.mp q).symm
theorem and_eq_iff {a b : Nat} : a &&& b = b ↔ ∀ k, b.testBit k = true → a.testBit k = true := by
  constructor
  · intro h k hk
    rw [← h, Nat.testBit_and, Bool.and_eq_true] at hk
    exact hk.1
  · intro h
    refine Nat.eq_of_testBit_eq fun k => ?_
    rw [Nat.testBit_and]
    cases e : b.testBit k with
    | true => rw [h k e]; rfl
    | false => exact Bool.and_false _
theorem holds_iff {n : Nat} {a b : List Nat} (ha : Cr n a) (hb : Cr n b) : bn a &&& bn b = bn b ↔ ∀ x ∈ b, x ∈ a := by
  rw [and_eq_iff]
  constructor
  · intro h x hx
    have := h x (by rw [testBit_bn hb.2]; exact decide_eq_true hx)
    rw [testBit_bn ha.2] at this
    exact of_decide_eq_true this
  · intro h k hk
    rw [testBit_bn hb.2] at hk
    rw [testBit_bn ha.2]
    exact decide_eq_true (h k (of_decide_eq_true hk))

/-! ### lots -/
/-- the order of tuples -/
def lex : List Nat → List Nat → Bool
  | [], [] => false
  | [], _ :: _ => true
  | _ :: _, [] => false
  | x :: xs, y :: ys => if x = y then lex xs ys else decide (x < y)
structure Lots (n : Nat) (lots : List (List Nat)) : Prop where
  cr : ∀ l ∈ lots, Cr n l ∧ 2 ≤ l.length
  up : lots.Pairwise fun a b => lex a b = true
  anti : lots.Pairwise fun a b => ¬ (bn a &&& bn b = bn b) ∧ ¬ (bn b &&& bn a = bn a)

theorem nodup_le : ∀ (l D : List Nat), l.Nodup → (∀ x ∈ l, x ∈ D) → l.length ≤ D.length
  | [], _, _, _ => Nat.zero_le _
  | x :: l, D, hn, hs => by
    obtain ⟨h1, h2⟩ := List.nodup_cons.mp hn
    have hx : x ∈ D := hs x List.mem_cons_self
    have ih := nodup_le l (D.erase x) h2 fun y hy => by
      have hne : y ≠ x := fun e => h1 (e ▸ hy)
      exact (List.mem_erase_of_ne hne).2 (hs y (List.mem_cons_of_mem _ hy))
    have e := List.length_erase_of_mem hx
    have hp := List.length_pos_of_mem hx
    rw [List.length_cons]
    omega
theorem many57 : ((List.range 64).filter fun m => decide (2 ≤ (cr m).length)).length = 57 := by decide +kernel
theorem Lots.few {n : Nat} {lots : List (List Nat)} (h : Lots n lots) (hn : n ≤ 6) : lots.length ≤ 57 := by
  rw [← many57, ← List.length_map (as := lots) bn]
  refine nodup_le _ _ ?_ fun x hx => ?_
  · refine List.pairwise_map.mpr (h.anti.imp fun {a b} hab e => hab.1 ?_)
    rw [e, Nat.and_self]
  · obtain ⟨l, hl, rfl⟩ := List.mem_map.mp hx
    obtain ⟨c, h2⟩ := h.cr l hl
    refine List.mem_filter.mpr ⟨List.mem_range.mpr (bn_lt (c.mono hn)), decide_eq_true ?_⟩
    rw [cr_bn c (by omega)]
    exact h2

/-! ### offices: the list, the lots with their lasts -/
/-- those who keep a person out, lot by lot -/
def oth (zs : List (Nat × Nat)) (p : Nat) : List Nat := (zs.filter fun z => decide (z.2 = p)).map fun z => z.1 ^^^ 2 ^ p
/-- whether a person is the last of a lot all others of which are inside -/
def bar (zs : List (Nat × Nat)) (s p : Nat) : Bool := (oth zs p).any fun m => decide (s &&& m = m)
def step (zs : List (Nat × Nat)) (c f p : Nat) : Nat := if c.testBit p && !bar zs f p then f ||| 2 ^ p else f
/-- who is let in -/
def inb (zs : List (Nat × Nat)) (od : List Nat) (c : Nat) : Nat := od.foldl (step zs c) 0
def look (zs : List (Nat × Nat)) (s p : Nat) : Nat := if bar zs s p then s &&& (s ^^^ 2 ^ p) else s ||| 2 ^ p
def looks (zs : List (Nat × Nat)) (s : Nat) (row : List Nat) : Nat := row.foldl (look zs) s
/-- who is let in, by the law's own road -/
def lstep (ms : List Nat) (c f p : Nat) : Nat :=
  if c.testBit p then (if (ms.filter fun m => m.testBit p && decide ((f ||| 2 ^ p) &&& m = m)).isEmpty then f ||| 2 ^ p else f) else f
def linb (ms : List Nat) (od : List Nat) (c : Nat) : Nat := od.foldl (lstep ms c) 0

/-- each lot (as bits) stands with its last -/
structure Lasts (od : List Nat) (zs : List (Nat × Nat)) : Prop where
  own : ∀ z ∈ zs, z.1.testBit z.2 = true
  inn : ∀ z ∈ zs, ∀ k, z.1.testBit k = true → k ∈ od
  last : ∀ z ∈ zs, ∀ pre post q, od = pre ++ q :: post → (∀ k, z.1.testBit k = true → k ∈ pre ∨ k = q) → z.1.testBit q = true → z.2 = q
  ahead : ∀ z ∈ zs, ∀ pre post, od = pre ++ z.2 :: post → ∀ k, z.1.testBit k = true → k ∈ pre ∨ k = z.2

theorem testBit_or_two (f p k : Nat) : (f ||| 2 ^ p).testBit k = (f.testBit k || decide (p = k)) := by
  rw [Nat.testBit_or, Nat.testBit_two_pow]
theorem testBit_xor_two (f p k : Nat) : (f ^^^ 2 ^ p).testBit k = (f.testBit k ^^ decide (p = k)) := by
  rw [Nat.testBit_xor, Nat.testBit_two_pow]
theorem bar_iff {zs : List (Nat × Nat)} {s p : Nat} : bar zs s p = true ↔ ∃ z ∈ zs, z.2 = p ∧ ∀ k, (z.1 ^^^ 2 ^ p).testBit k = true → s.testBit k = true := by
  unfold bar oth
  rw [List.any_map, List.any_filter, List.any_eq_true]
  constructor
  · rintro ⟨z, hz, h⟩
    simp only [Bool.and_eq_true, decide_eq_true_eq, Function.comp] at h
    exact ⟨z, hz, h.1, and_eq_iff.mp h.2⟩
  · rintro ⟨z, hz, h1, h2⟩
    refine ⟨z, hz, ?_⟩
    simp only [Bool.and_eq_true, decide_eq_true_eq, Function.comp]
    exact ⟨h1, and_eq_iff.mpr h2⟩
section
variable {od : List Nat} {zs : List (Nat × Nat)} {c : Nat}
/-- others of a lot stand ahead of its last -/
theorem Lasts.oth_ahead (L : Lasts od zs) (nd : od.Nodup) {pre post : List Nat} {p : Nat} (e : od = pre ++ p :: post) {z : Nat × Nat} (hz : z ∈ zs) (hp : z.2 = p) {k : Nat} (hk : (z.1 ^^^ 2 ^ p).testBit k = true) : k ∈ pre := by
  have hb := L.own z hz
  rw [hp] at hb
  rw [testBit_xor_two] at hk
  by_cases h : p = k
  · subst h
    rw [hb] at hk
    simp at hk
  · rw [decide_eq_false h, Bool.xor_false] at hk
    rcases L.ahead z hz pre post (by rw [hp]; exact e) k hk with q | q
    · exact q
    · exact absurd (q.trans hp).symm h
/-- whether somebody is barred hangs on those ahead alone -/
theorem Lasts.bar_eq (L : Lasts od zs) (nd : od.Nodup) {pre post : List Nat} {p s t : Nat} (e : od = pre ++ p :: post) (h : ∀ k ∈ pre, s.testBit k = t.testBit k) : bar zs s p = bar zs t p := by
  have one : ∀ s t : Nat, (∀ k ∈ pre, s.testBit k = t.testBit k) → bar zs s p = true → bar zs t p = true := fun s t h hb => by
    obtain ⟨z, hz, hp, q⟩ := bar_iff.mp hb
    refine bar_iff.mpr ⟨z, hz, hp, fun k hk => ?_⟩
    rw [← h k (L.oth_ahead nd e hz hp hk)]
    exact q k hk
  exact Bool.eq_iff_iff.mpr ⟨one s t h, one t s fun k hk => (h k hk).symm⟩

theorem step_other {f p k : Nat} (h : p ≠ k) : (step zs c f p).testBit k = f.testBit k := by
  unfold step
  split
  · rw [testBit_or_two, decide_eq_false h, Bool.or_false]
  · rfl
theorem fold_other : ∀ {l : List Nat} {f k : Nat}, k ∉ l → (l.foldl (step zs c) f).testBit k = f.testBit k
  | [], _, _, _ => rfl
  | p :: l, f, k, h => by
    rw [List.foldl_cons, fold_other (l := l) (f := step zs c f p) fun m => h (List.mem_cons_of_mem _ m)]
    exact step_other fun e => h (by rw [e]; exact List.mem_cons_self)
theorem inb_out {k : Nat} (h : k ∉ od) : (inb zs od c).testBit k = false := by
  unfold inb
  rw [fold_other h, Nat.zero_testBit]
/-- those let in: of the crowd, and not barred by those let in -/
theorem Lasts.inb_fix (L : Lasts od zs) (nd : od.Nodup) {p : Nat} (hp : p ∈ od) : (inb zs od c).testBit p = (c.testBit p && !bar zs (inb zs od c) p) := by
  obtain ⟨pre, post, e⟩ := List.append_of_mem hp
  have nd' := nd
  rw [e] at nd'
  obtain ⟨_, n2, n3⟩ := List.nodup_append.mp nd'
  have hpre : p ∉ pre := fun m => n3 p m p List.mem_cons_self rfl
  have hpost : p ∉ post := (List.nodup_cons.mp n2).1
  have hF : inb zs od c = (p :: post).foldl (step zs c) (pre.foldl (step zs c) 0) := by
    unfold inb
    rw [e, List.foldl_append]
  have ag : ∀ k ∈ pre, (inb zs od c).testBit k = (pre.foldl (step zs c) 0).testBit k := fun k hk => by
    rw [hF, fold_other]
    exact fun m => n3 k hk k m rfl
  rw [L.bar_eq nd e ag, hF, List.foldl_cons, fold_other hpost]
  have z : (pre.foldl (step zs c) 0).testBit p = false := by rw [fold_other hpre, Nat.zero_testBit]
  generalize pre.foldl (step zs c) 0 = f at z
  unfold step
  split
  · rename_i h
    rw [testBit_or_two, decide_eq_true rfl, Bool.or_true]
    exact h.symm
  · rename_i h
    rw [z]
    exact (Bool.eq_false_iff.mpr h).symm
theorem inb_sub (L : Lasts od zs) (nd : od.Nodup) {k : Nat} (h : (inb zs od c).testBit k = true) : c.testBit k = true := by
  by_cases hk : k ∈ od
  · rw [L.inb_fix nd hk, Bool.and_eq_true] at h
    exact h.1
  · rw [inb_out hk] at h
    cases h
/-- only one set is so -/
theorem Lasts.fix_uniq (L : Lasts od zs) (nd : od.Nodup) {s : Nat} (hs : ∀ p ∈ od, s.testBit p = (c.testBit p && !bar zs s p)) (ho : ∀ k, k ∉ od → s.testBit k = false) : s = inb zs od c := by
  have key : ∀ (n : Nat) (pre post : List Nat), pre.length = n → od = pre ++ post → ∀ k ∈ pre, s.testBit k = (inb zs od c).testBit k := by
    intro n
    induction n with
    | zero =>
      intro pre post hl e k hk
      rw [List.length_eq_zero_iff.mp hl] at hk
      cases hk
    | succ n ih =>
      intro pre post hl e k hk
      obtain ⟨p0, q, e0⟩ : ∃ p0 q, pre = p0 ++ [q] := by
        rcases List.eq_nil_or_concat pre with z | ⟨a, b, z⟩
        · rw [z] at hl
          cases hl
        · exact ⟨a, b, by rw [z, List.concat_eq_append]⟩
      subst e0
      have hl' : p0.length = n := by
        rw [List.length_append] at hl
        exact Nat.succ.inj hl
      have e' : od = p0 ++ q :: post := by rw [e, List.append_assoc]; rfl
      have ag := ih p0 (q :: post) hl' e'
      rcases List.mem_append.mp hk with m | m
      · exact ag k m
      · rw [List.mem_singleton.mp m]
        have hq : q ∈ od := by rw [e']; exact List.mem_append_right _ List.mem_cons_self
        rw [hs q hq, L.inb_fix nd hq, L.bar_eq nd e' ag]
  refine Nat.eq_of_testBit_eq fun k => ?_
  by_cases hk : k ∈ od
  · exact key od.length od [] rfl (List.append_nil _).symm k hk
  · rw [ho k hk, inb_out hk]

/-! ### looks -/
theorem look_self (s p : Nat) : (look zs s p).testBit p = !bar zs s p := by
  unfold look
  split
  · rename_i h
    rw [Nat.testBit_and, testBit_xor_two, h, decide_eq_true rfl]
    cases s.testBit p <;> rfl
  · rename_i h
    rw [testBit_or_two, decide_eq_true rfl, Bool.or_true, Bool.eq_false_iff.mpr h]
    rfl
theorem look_other {s p k : Nat} (h : p ≠ k) : (look zs s p).testBit k = s.testBit k := by
  unfold look
  split
  · rw [Nat.testBit_and, testBit_xor_two, decide_eq_false h, Bool.xor_false, Bool.and_self]
  · rw [testBit_or_two, decide_eq_false h, Bool.or_false]
theorem look_same {s p : Nat} : look zs s p = s ↔ s.testBit p = !bar zs s p := by
  constructor
  · intro h
    have q := look_self (zs := zs) s p
    rw [h] at q
    exact q
  · intro h
    refine Nat.eq_of_testBit_eq fun k => ?_
    by_cases e : p = k
    · subst e
      rw [look_self, h]
    · exact look_other e
/-- quiet, within c -/
def quiet (zs : List (Nat × Nat)) (ps : List Nat) (s : Nat) : Bool := ps.all fun p => decide (look zs s p = s)
theorem Lasts.quiet_iff (L : Lasts od zs) (nd : od.Nodup) {ps : List Nat} {s : Nat} (hps : ∀ k, k ∈ ps ↔ c.testBit k = true) (hod : ∀ k, c.testBit k = true → k ∈ od) (hsub : ∀ k, s.testBit k = true → c.testBit k = true) :
    quiet zs ps s = decide (s = inb zs od c) := by
  refine Bool.eq_iff_iff.mpr ?_
  unfold quiet
  rw [List.all_eq_true, decide_eq_true_eq]
  constructor
  · intro h
    refine L.fix_uniq nd (fun p hp => ?_) fun k hk => ?_
    · cases hc : c.testBit p with
      | true => exact look_same.mp (of_decide_eq_true (h p ((hps p).mpr hc)))
      | false =>
        cases hs : s.testBit p with
        | true =>
          rw [hsub p hs] at hc
          cases hc
        | false => rfl
    · cases hs : s.testBit k with
      | true => exact absurd (hod k (hsub k hs)) hk
      | false => rfl
  · intro e p hp
    have hc := (hps p).mp hp
    refine decide_eq_true (look_same.mpr ?_)
    have q := L.inb_fix (c := c) nd (hod p hc)
    rw [← e, hc, Bool.true_and] at q
    exact q

/-- s is right on the people of pre -/
def Agree (L s : Nat) (pre : List Nat) : Prop := ∀ k ∈ pre, s.testBit k = L.testBit k
theorem Lasts.look_agree (L : Lasts od zs) (nd : od.Nodup) {pre post : List Nat} {s p : Nat} (e : od = pre ++ post) (hp : c.testBit p = true) (h : Agree (inb zs od c) s pre) : Agree (inb zs od c) (look zs s p) pre := by
  intro k hk
  by_cases q : p = k
  · subst q
    obtain ⟨p1, p2, e1⟩ := List.append_of_mem hk
    have e2 : od = p1 ++ p :: (p2 ++ post) := by rw [e, e1, List.append_assoc]; rfl
    rw [look_self, L.bar_eq nd e2 fun j hj => h j (by rw [e1]; exact List.mem_append_left _ hj), L.inb_fix nd (by rw [e]; exact List.mem_append_left _ hk), hp, Bool.true_and]
  · rw [look_other q]
    exact h k hk
theorem Lasts.look_next (L : Lasts od zs) (nd : od.Nodup) {pre post : List Nat} {s p : Nat} (e : od = pre ++ p :: post) (hp : c.testBit p = true) (h : Agree (inb zs od c) s pre) : Agree (inb zs od c) (look zs s p) (pre ++ [p]) := by
  intro k hk
  rcases List.mem_append.mp hk with m | m
  · exact L.look_agree nd e hp h k m
  · rw [List.mem_singleton.mp m, look_self, L.bar_eq nd e h, L.inb_fix nd (by rw [e]; exact List.mem_append_right _ List.mem_cons_self), hp, Bool.true_and]
theorem Lasts.looks_agree (L : Lasts od zs) (nd : od.Nodup) {pre post : List Nat} (e : od = pre ++ post) : ∀ {row : List Nat} {s : Nat}, (∀ p ∈ row, c.testBit p = true) → Agree (inb zs od c) s pre → Agree (inb zs od c) (looks zs s row) pre
  | [], _, _, h => h
  | p :: r, s, hr, h => L.looks_agree nd e (row := r) (s := look zs s p) (fun q hq => hr q (List.mem_cons_of_mem _ hq)) (L.look_agree nd e (hr p List.mem_cons_self) h)
theorem looks_app (zs : List (Nat × Nat)) (s : Nat) (a b : List Nat) : looks zs s (a ++ b) = looks zs (looks zs s a) b := List.foldl_append
theorem looks_sub : ∀ {row : List Nat} {s : Nat}, (∀ p ∈ row, c.testBit p = true) → (∀ k, s.testBit k = true → c.testBit k = true) → ∀ k, (looks zs s row).testBit k = true → c.testBit k = true
  | [], _, _, h => h
  | p :: r, s, hr, h => by
    refine looks_sub (row := r) (s := look zs s p) (fun q hq => hr q (List.mem_cons_of_mem _ hq)) fun k hk => ?_
    by_cases e : p = k
    · rw [← e]
      exact hr p List.mem_cons_self
    · rw [look_other e] at hk
      exact h k hk
theorem Lasts.round (L : Lasts od zs) (nd : od.Nodup) {pre post row : List Nat} {s q : Nat} (e : od = pre ++ q :: post) (hr : ∀ p, p ∈ row ↔ c.testBit p = true) (hq : c.testBit q = true) (h : Agree (inb zs od c) s pre) : Agree (inb zs od c) (looks zs s row) (pre ++ [q]) := by
  obtain ⟨a, b, eb⟩ := List.append_of_mem ((hr q).mpr hq)
  have hc : ∀ p ∈ row, c.testBit p = true := fun p hp => (hr p).mp hp
  have e2 : od = (pre ++ [q]) ++ post := by rw [e, List.append_assoc]; rfl
  rw [eb, looks_app]
  have h1 := L.looks_agree nd e (row := a) (s := s) (fun p hp => hc p (by rw [eb]; exact List.mem_append_left _ hp)) h
  have h2 := L.look_next nd e hq h1
  exact L.looks_agree nd e2 (row := b) (fun p hp => hc p (by rw [eb]; exact List.mem_append_right _ (List.mem_cons_of_mem _ hp))) h2
/-- so many rounds, one behind another -/
inductive Rounds (ps : List Nat) : Nat → List Nat → Prop where
  | zero : Rounds ps 0 []
  | more {j : Nat} {row r : List Nat} (h : Rounds ps j row) (e : r.Perm ps) : Rounds ps (j + 1) (row ++ r)
theorem Rounds.mem {ps : List Nat} {j : Nat} {row : List Nat} (h : Rounds ps j row) : ∀ p ∈ row, p ∈ ps := by
  induction h with
  | zero => exact fun _ hp => nomatch hp
  | more h e ih =>
    intro p hp
    rcases List.mem_append.mp hp with m | m
    · exact ih p m
    · exact e.mem_iff.mp m
theorem Rounds.len {ps : List Nat} {j : Nat} {row : List Nat} (h : Rounds ps j row) : row.length = j * ps.length := by
  induction h with
  | zero => rw [Nat.zero_mul]; rfl
  | more h e ih => rw [List.length_append, ih, e.length_eq, Nat.succ_mul]
theorem Lasts.rounds (L : Lasts od zs) (nd : od.Nodup) {ps : List Nat} (hps : ∀ k, k ∈ ps ↔ c.testBit k = true) {s : Nat} (hs : ∀ k, s.testBit k = true → c.testBit k = true) :
    ∀ (n : Nat) (pre post : List Nat), pre.length = n → od = pre ++ post → ∀ (j : Nat) (row : List Nat), Rounds ps j row → pre.countP (fun k => c.testBit k) ≤ j → Agree (inb zs od c) (looks zs s row) pre := by
  intro n
  induction n with
  | zero =>
    intro pre post hl e j row _ _ k hk
    rw [List.length_eq_zero_iff.mp hl] at hk
    cases hk
  | succ n ih =>
    intro pre post hl e j row hr hj
    obtain ⟨p0, q, e0⟩ : ∃ p0 q, pre = p0 ++ [q] := by
      rcases List.eq_nil_or_concat pre with z | ⟨a, b, z⟩
      · rw [z] at hl
        cases hl
      · exact ⟨a, b, by rw [z, List.concat_eq_append]⟩
    subst e0
    have hl' : p0.length = n := by
      rw [List.length_append] at hl
      exact Nat.succ.inj hl
    have e' : od = p0 ++ q :: post := by rw [e, List.append_assoc]; rfl
    rw [List.countP_append, List.countP_singleton] at hj
    cases hq : c.testBit q with
    | false =>
      rw [hq] at hj
      have h := ih p0 (q :: post) hl' e' j row hr (by simpa using hj)
      intro k hk
      rcases List.mem_append.mp hk with m | m
      · exact h k m
      · rw [List.mem_singleton.mp m]
        have z1 : (looks zs s row).testBit q = false := by
          cases z : (looks zs s row).testBit q with
          | false => rfl
          | true =>
            rw [looks_sub (fun p hp => (hps p).mp (hr.mem p hp)) hs q z] at hq
            cases hq
        have z2 : (inb zs od c).testBit q = false := by
          cases z : (inb zs od c).testBit q with
          | false => rfl
          | true =>
            rw [inb_sub L nd z] at hq
            cases hq
        rw [z1, z2]
    | true =>
      rw [hq] at hj
      cases hr with
      | zero => simp at hj
      | @more j' row' r hr' er =>
        have h := ih p0 (q :: post) hl' e' j' row' hr' (by simp at hj; omega)
        rw [looks_app]
        exact L.round nd e' (fun p => er.mem_iff.trans (hps p)) hq h
/-- looks that go as often through the crowd as it has people end with those let in -/
theorem Lasts.looks_end (L : Lasts od zs) (nd : od.Nodup) {ps row : List Nat} (nps : ps.Nodup) (hps : ∀ k, k ∈ ps ↔ c.testBit k = true) (hod : ∀ k, c.testBit k = true → k ∈ od) {s : Nat} (hs : ∀ k, s.testBit k = true → c.testBit k = true)
    (hr : Rounds ps ps.length row) : looks zs s row = inb zs od c := by
  have cnt : od.countP (fun k => c.testBit k) = ps.length := by
    rw [List.countP_eq_length_filter]
    refine List.Perm.length_eq ((List.perm_ext_iff_of_nodup (nd.filter _) nps).mpr fun k => ?_)
    rw [List.mem_filter, hps]
    exact ⟨fun z => z.2, fun z => ⟨hod k z, z⟩⟩
  have ag := L.rounds nd hps hs od.length od [] rfl (List.append_nil _).symm _ row hr (Nat.le_of_eq cnt)
  refine Nat.eq_of_testBit_eq fun k => ?_
  by_cases hk : k ∈ od
  · exact ag k hk
  · rw [inb_out hk]
    cases z : (looks zs s row).testBit k with
    | false => rfl
    | true => exact absurd (hod k (looks_sub (fun p hp => (hps p).mp (hr.mem p hp)) hs k z)) hk
theorem look_inb (L : Lasts od zs) (nd : od.Nodup) {p : Nat} (hp : p ∈ od) (hc : c.testBit p = true) : look zs (inb zs od c) p = inb zs od c := by
  refine look_same.mpr ?_
  have q := L.inb_fix (c := c) nd hp
  rw [hc, Bool.true_and] at q
  exact q

/-! ### the law's own road -/
theorem Lasts.lstep_eq (L : Lasts od zs) (nd : od.Nodup) {pre post : List Nat} {f p : Nat} (e : od = pre ++ p :: post) (hf : ∀ k, f.testBit k = true → k ∈ pre) : lstep (zs.map (·.1)) c f p = step zs c f p := by
  unfold lstep step
  cases c.testBit p with
  | false => rfl
  | true =>
    rw [if_pos rfl, Bool.true_and]
    have key : ((zs.map (·.1)).filter fun m => m.testBit p && decide ((f ||| 2 ^ p) &&& m = m)).isEmpty = !bar zs f p := by
      rw [Bool.eq_iff_iff, List.isEmpty_iff, List.filter_eq_nil_iff, Bool.not_eq_true', Bool.eq_false_iff]
      constructor
      · intro h hb
        obtain ⟨z, hz, hp, q⟩ := bar_iff.mp hb
        refine h z.1 (List.mem_map.mpr ⟨z, hz, rfl⟩) ?_
        have hown := L.own z hz
        rw [hp] at hown
        rw [hown, Bool.true_and]
        refine decide_eq_true (and_eq_iff.mpr fun k hk => ?_)
        rw [testBit_or_two]
        by_cases hpk : p = k
        · rw [decide_eq_true hpk, Bool.or_true]
        · have := q k (by rw [testBit_xor_two, decide_eq_false hpk, Bool.xor_false]; exact hk)
          rw [this]
          rfl
      · intro h m hm hb
        obtain ⟨z, hz, rfl⟩ := List.mem_map.mp hm
        rw [Bool.and_eq_true, decide_eq_true_eq, and_eq_iff] at hb
        have all : ∀ k, z.1.testBit k = true → k ∈ pre ∨ k = p := fun k hk => by
          have q := hb.2 k hk
          rw [testBit_or_two, Bool.or_eq_true, decide_eq_true_eq] at q
          exact q.elim (fun q => Or.inl (hf k q)) fun q => Or.inr q.symm
        have hl := L.last z hz pre post p e all hb.1
        refine h (bar_iff.mpr ⟨z, hz, hl, fun k hk => ?_⟩)
        rw [testBit_xor_two] at hk
        by_cases hpk : p = k
        · rw [decide_eq_true hpk, ← hpk, hb.1] at hk
          cases hk
        · rw [decide_eq_false hpk, Bool.xor_false] at hk
          have q := hb.2 k hk
          rw [testBit_or_two, decide_eq_false hpk, Bool.or_false] at q
          exact q
    rw [key]
theorem Lasts.linb_eq (L : Lasts od zs) (nd : od.Nodup) : linb (zs.map (·.1)) od c = inb zs od c := by
  have key : ∀ (post pre : List Nat) (f : Nat), od = pre ++ post → (∀ k, f.testBit k = true → k ∈ pre) → post.foldl (lstep (zs.map (·.1)) c) f = post.foldl (step zs c) f := by
    intro post
    induction post with
    | nil => intro pre f _ _; rfl
    | cons p post ih =>
      intro pre f e hf
      rw [List.foldl_cons, List.foldl_cons, L.lstep_eq nd e hf]
      refine ih (pre ++ [p]) _ (by rw [e, List.append_assoc]; rfl) fun k hk => ?_
      by_cases h : p = k
      · exact List.mem_append_right _ (List.mem_singleton.mpr h.symm)
      · rw [step_other h] at hk
        exact List.mem_append_left _ (hf k hk)
  exact key od [] 0 rfl fun k hk => by
    rw [Nat.zero_testBit] at hk
    cases hk
end
end Lk
/-! The ground of the walks: the text by places, what is asked of its top, things, comprehensions that only make. -/
namespace Lk
open PySem PySem.Spec PyProof.Rows L2 C8
def topS (i : Nat) : Stmt := PySem.Challenge.pw_lastoflot_k71_whole_quiet_ends_of_looks.main.body.getD i (.Pass ⟨0, 0, 0, 0⟩)
/-- the def of the text stands under its name and takes its parameters plainly -/
def Has (K : PySem.W.Frag) (mg : Str → Option Value) (x : Str) (st : Stmt) (ps : List Str) : Prop := ∃ (f : Addr) (fd : FuncData), C8.Def K mg x st f fd ∧ Binds K fd ps []
section
variable {P : Program} {w : World} {K : PySem.W.Frag} {mg : Str → Option Value} {base : Heap}
theorem cal_of {x : Str} {st : Stmt} {N ps : List Str} {k : Nat} {sp : Sp} (h : Has K mg x st ps) (S : scC N ps (fnScope st) = true) (len : ∀ vs H Q E, sp vs H Q E → vs.length = ps.length)
    (hb : N.Nodup → ∀ (f : Addr) (cdv : Value) (A : Around) (outer : List Env) (s : Shared) (H : Hp) (vs : List V) (Q : VK) (E : XK), Room k (A.deeper (envOfC x (fnScope st) s.heap.objs.size f cdv)) → sp vs H Q E →
      ∃ t, PSs (cxOf C8.CX0 P w K mg base N x (fnScope st) f cdv A outer s H E).nox (fnBody st) t ∧ t { nx := fun _ H' => Q .non H', rt := Q } (start N vs) H) : Cal P w K mg base (k + 1) x sp [] := by
  obtain ⟨f, fd, d, b⟩ := h
  exact cal0 d b .nil (fnScope_by S) len (hb (fnScope_by S).nd f)
end
/-- what the built-in names of the text are: not stored by it -/
structure Bi (mg : Str → Option Value) : Prop where
  isinstance : mg "isinstance" = none
  all : mg "all" = none
  any : mg "any" = none
  range : mg "range" = none
  len : mg "len" = none
  sum : mg "sum" = none
  tuple : mg "tuple" = none
  enumerate : mg "enumerate" = none
  max : mg "max" = none
  sorted : mg "sorted" = none
  set : mg "set" = none
  list : mg "list" = none
  int : mg "int" = none
  bool : mg "bool" = none
  abs : mg "abs" = none
  zip : mg "zip" = none

/-- a thing, one level deep -/
inductive Thg (H : Hp) : V → Prop where
  | non : Thg H .non
  | bl (b : Bool) : Thg H (.bl b)
  | int (i : Int) : Thg H (.int i)
  | str (x : Str) : Thg H (.str x)
  | lst {a : Addr} {xs : List V} (e : H a = some (.lst xs)) : Thg H (.ref a)
  | tup {a : Addr} {xs : List V} (e : H a = some (.tup xs)) : Thg H (.ref a)
  | dct {a : Addr} {kvs : List (Key × V)} (e : H a = some (.dK kvs)) : Thg H (.ref a)
theorem Thg.same {H H' : Hp} {x : V} (h : Thg H x) (s : Same H H') : Thg H' x := by
  cases h with
  | non => exact .non
  | bl b => exact .bl b
  | int i => exact .int i
  | str x => exact .str x
  | lst e => exact .lst (s _ _ e)
  | tup e => exact .tup (s _ _ e)
  | dct e => exact .dct (s _ _ e)
def isI : V → Bool
  | .int _ => true
  | _ => false
def isB : V → Bool
  | .bl _ => true
  | _ => false
/-- isinstance of a thing against int, bool: the answers -/
theorem Thg.ty {K : PySem.W.Frag} {H : Hp} {x : V} (h : Thg H x) : ∃ n : String, TyX K H x (.type n) ∧ kitB n "int" = some (isI x || isB x) ∧ kitB n "bool" = some (isB x) := by
  cases h with
  | non => exact ⟨_, .base .non, show kitB "NoneType" "int" = some false by decide +kernel, show kitB "NoneType" "bool" = some false by decide +kernel⟩
  | bl b => exact ⟨_, .base (.bl b), show kitB "bool" "int" = some true by decide +kernel, show kitB "bool" "bool" = some true by decide +kernel⟩
  | int i => exact ⟨_, .base (.int i), show kitB "int" "int" = some true by decide +kernel, show kitB "int" "bool" = some false by decide +kernel⟩
  | str x => exact ⟨_, .base (.str x), show kitB "str" "int" = some false by decide +kernel, show kitB "str" "bool" = some false by decide +kernel⟩
  | lst e => exact ⟨_, .base (.lst e), show kitB "list" "int" = some false by decide +kernel, show kitB "list" "bool" = some false by decide +kernel⟩
  | tup e => exact ⟨_, .base (.tup e), show kitB "tuple" "int" = some false by decide +kernel, show kitB "tuple" "bool" = some false by decide +kernel⟩
  | dct e => exact ⟨_, .base (.dK e), show kitB "dict" "int" = some false by decide +kernel, show kitB "dict" "bool" = some false by decide +kernel⟩

/-! ### numbers as values -/
def nums (ns : List Nat) : List V := ns.map fun (k : Nat) => V.int (k : Int)
theorem nums_len (ns : List Nat) : (nums ns).length = ns.length := by
  unfold nums
  rw [List.length_map]
theorem nums_at {ns : List Nat} {i k : Nat} (h : ns[i]? = some k) : (nums ns)[i]? = some (.int (k : Int)) := by
  unfold nums
  rw [List.getElem?_map, h]
  rfl
theorem nums_get {ns : List Nat} {i : Nat} {x : V} (h : (nums ns)[i]? = some x) : ∃ k, ns[i]? = some k ∧ x = .int (k : Int) := by
  unfold nums at h
  rw [List.getElem?_map] at h
  obtain ⟨k, hk, e⟩ := Option.map_eq_some_iff.mp h
  exact ⟨k, hk, e.symm⟩
theorem nums_map (ns : List Nat) : nums ns = (ns.map fun (k : Nat) => (k : Int)).map V.int := by
  unfold nums
  rw [List.map_map]
  rfl
theorem nums_inj : ∀ {a b : List Nat}, nums a = nums b → a = b
  | [], [], _ => rfl
  | [], _ :: _, h => nomatch h
  | _ :: _, [], h => nomatch h
  | x :: a, y :: b, h => by
    have h1 : V.int (x : Int) = V.int (y : Int) := (List.cons.inj h).1
    have h2 : nums a = nums b := (List.cons.inj h).2
    have e : x = y := Int.ofNat.inj (V.int.inj h1)
    rw [e, nums_inj h2]
theorem nums_app (a b : List Nat) : nums (a ++ b) = nums a ++ nums b := List.map_append
theorem szl {n : Nat} (h : n ≤ 100000) : n < sizeLine := Nat.lt_of_le_of_lt h (by decide)
theorem szl' {n : Nat} (h : n ≤ 100000) : n ≤ sizeLine := Nat.le_of_lt (szl h)

/-! ### heaps that only grow -/
theorem same_new {H : Hp} {p : Addr} {o : HO} (h : H p = none) : Same H (upd H p o) := fun b x e => by
  rw [upd_ne (ne_of_none e h)]
  exact e
/-- all but what stands at one place -/
def But (a : Addr) (H H' : Hp) : Prop := ∀ b o, b ≠ a → H b = some o → H' b = some o
theorem But.trans {a : Addr} {H H1 H2 : Hp} (s : But a H H1) (t : But a H1 H2) : But a H H2 := fun b o h e => t b o h (s b o h e)
theorem Same.but {a : Addr} {H H' : Hp} (s : Same H H') : But a H H' := fun b o _ e => s b o e
theorem but_upd {a : Addr} {H : Hp} {o : HO} : But a H (upd H a o) := fun b x h e => by
  rw [upd_ne h]
  exact e
/-- what a comprehension has made so far -/
structure Acc (H1 : Hp) (D : Addr) (l : List V) (H : Hp) : Prop where
  sm : Same H1 H
  at_ : H D = some (.lst l)
theorem acc_nil {H1 : Hp} {D : Addr} (h : H1 D = none) : Acc H1 D [] (upd H1 D (.lst [])) := ⟨same_new h, upd_same⟩
theorem Acc.more {H1 H H' : Hp} {D : Addr} {l : List V} (h : Acc H1 D l H) (s : Same H H') : Acc H1 D l H' := ⟨h.sm.trans s, s _ _ h.at_⟩
theorem Acc.put {H1 H : Hp} {D : Addr} {l l' : List V} {y : V} (h : Acc H1 D l H) (hD : H1 D = none) (hz : l.length ≤ 100000) (e : l' = l ++ [y]) :
    ∃ acc, H D = some (.lst acc) ∧ acc.length < sizeLine ∧ Acc H1 D l' (upd H D (.lst (acc ++ [y]))) := by
  refine ⟨l, h.at_, szl hz, fun b o q => ?_, by rw [upd_same, e]⟩
  rw [upd_ne (ne_of_none q hD)]
  exact h.sm b o q
theorem range_more {α : Type} (f : Nat → α) (i : Nat) : (List.range (i + 1)).map f = (List.range i).map f ++ [f i] := by
  rw [List.range_succ, List.map_append]
  rfl
theorem take_more {α β : Type} (f : α → β) {xs : List α} {i : Nat} {x : α} (h : xs[i]? = some x) : (xs.take (i + 1)).map f = (xs.take i).map f ++ [f x] := by
  rw [List.take_add_one, h, List.map_append]
  rfl

/-! ### bits of numbers from nought on -/
section
variable {X : Cx}
def nop (g : Nat → Nat → Nat) : R2 := fun x y H Q => ∃ a b : Nat, x = .int (a : Int) ∧ y = .int (b : Int) ∧ Q (.int ((g a b : Nat) : Int)) H
theorem bitAnd_nat (a b : Nat) : Builtin.bitAnd (a : Int) (b : Int) = ((a &&& b : Nat) : Int) := by
  simp [Builtin.bitAnd, Int.natCast_nonneg]
theorem bitOr_nat (a b : Nat) : Builtin.bitOr (a : Int) (b : Int) = ((a ||| b : Nat) : Int) := by
  rw [bitOr_nn (Int.natCast_nonneg a) (Int.natCast_nonneg b), Int.toNat_natCast, Int.toNat_natCast]
theorem bitXor_nat (a b : Nat) : Builtin.bitXor (a : Int) (b : Int) = ((a ^^^ b : Nat) : Int) := by
  rw [Bits.bitXor_pp (Int.natCast_nonneg a) (Int.natCast_nonneg b), Int.toNat_natCast, Int.toNat_natCast]
theorem n_and : OpR X (binaryOp .BitAnd) (nop fun a b => a &&& b) := by
  intro pins s σ H x y v u Q I rx ry h
  obtain ⟨a, b, rfl, rfl, q⟩ := h
  exact op_and pins s σ H _ _ v u Q I rx ry ⟨a, b, rfl, rfl, show Q (.int (Builtin.bitAnd (a : Int) (b : Int))) H by rw [bitAnd_nat]; exact q⟩
theorem n_or : OpR X (binaryOp .BitOr) (nop fun a b => a ||| b) := by
  intro pins s σ H x y v u Q I rx ry h
  obtain ⟨a, b, rfl, rfl, q⟩ := h
  exact op_or pins s σ H _ _ v u Q I rx ry ⟨a, b, rfl, rfl, show Q (.int (Builtin.bitOr (a : Int) (b : Int))) H by rw [bitOr_nat]; exact q⟩
theorem n_xor : OpR X (binaryOp .BitXor) (nop fun a b => a ^^^ b) := by
  intro pins s σ H x y v u Q I rx ry h
  obtain ⟨a, b, rfl, rfl, q⟩ := h
  exact op_xor pins s σ H _ _ v u Q I rx ry ⟨a, b, rfl, rfl, show Q (.int (Builtin.bitXor (a : Int) (b : Int))) H by rw [bitXor_nat]; exact q⟩
theorem n_shr : OpR X (binaryOp .RShift) (nop fun a b => a / 2 ^ b) := by
  intro pins s σ H x y v u Q I rx ry h
  obtain ⟨a, b, rfl, rfl, q⟩ := h
  refine op_shrN pins s σ H _ _ v u Q I rx ry ⟨a, b, rfl, rfl, ?_⟩
  have e : (a : Int) / 2 ^ b = ((a / 2 ^ b : Nat) : Int) := by
    rw [Int.natCast_ediv, Int.natCast_pow]
    rfl
  rw [e]
  exact q
/-- 1 << k -/
def one_ : R2 := fun x y H Q => ∃ k : Nat, x = .int 1 ∧ y = .int (k : Int) ∧ k ≤ 1000 ∧ Q (.int ((2 ^ k : Nat) : Int)) H
theorem n_one : OpR X (binaryOp .LShift) one_ := by
  intro pins s σ H x y v u Q I rx ry h
  obtain ⟨k, rfl, rfl, hk, q⟩ := h
  refine op_oneShl pins s σ H _ _ v u Q I rx ry ⟨k, rfl, rfl, by omega, ?_⟩
  have e : (2 : Int) ^ k = ((2 ^ k : Nat) : Int) := by
    rw [Int.natCast_pow]
    rfl
  rw [e]
  exact q
end
theorem dec_int (a b : Nat) : decide (V.int (a : Int) = V.int (b : Int)) = decide (a = b) :=
  decide_eq_decide.mpr ⟨fun h => Int.ofNat.inj (V.int.inj h), fun h => by rw [h]⟩
theorem bit_dec (m k : Nat) : decide (V.int ((m / 2 ^ k &&& 1 : Nat) : Int) = V.int ((1 : Nat) : Int)) = m.testBit k := by
  rw [dec_int, Nat.and_one_is_mod, Nat.testBit_eq_decide_div_mod_eq]

/-! ### rules within a comprehension's block: the written part named -/
section
variable {X : Cx}
theorem ixT (K : PySem.W.Frag) (h : X.K = K := by rfl) : IxR X (rIxT K) := by
  subst h
  exact ix_tup
theorem ixL (K : PySem.W.Frag) (h : X.K = K := by rfl) : IxR X (rIxL K) := by
  subst h
  exact ix_list
theorem lenS (K : PySem.W.Frag) (h : X.K = K := by rfl) : CallR X (.builtin "len") (fun xs H Q => ∃ p ys, xs = [.ref p] ∧ (SqL K H p ys ∨ SqT K H p ys) ∧ Q (.int ys.length) H) := by
  subst h
  exact call_len_seq
theorem allS (K : PySem.W.Frag) (hc : X.calm = true := by rfl) (h : X.K = K := by rfl) : CallR X (.builtin "all") (rAll K) := by
  subst h
  exact cr_all hc
theorem inS (K : PySem.W.Frag) (h : X.K = K := by rfl) : OpR X (compareOp .In) (rIn K false) := by
  subst h
  exact op_in_seq
theorem catS (K : PySem.W.Frag) (h : X.K = K := by rfl) : OpR X (binaryOp .Add) (rCatA K) := by
  subst h
  exact op_catA
theorem piT (K : PySem.W.Frag) {tg l : Expr} {tl : TE} (hl : PE X l tl) (h : X.K = K := by rfl) : PI X tg l (iTup K tl) := by
  subst h
  exact pi_tup hl
theorem piL (K : PySem.W.Frag) {tg l : Expr} {tl : TE} (hl : PE X l tl) (h : X.K = K := by rfl) : PI X tg l (iList K tl) := by
  subst h
  exact pi_list hl
theorem neD (K : PySem.W.Frag) (hu : X.A.units + 64 < cLine) (h : X.K = K := by rfl) : OpR X (compareOp .NotEq) (rNeD K) := by
  subst h
  exact op_neD hu
theorem eqD (K : PySem.W.Frag) (hu : X.A.units + 64 < cLine) (h : X.K = K := by rfl) : OpR X (compareOp .Eq) (rEqD K) := by
  subst h
  exact op_eqD hu
end

theorem walk_r0 {n : Nat} : Walk (Itr 0 n) n (fun _ => True) (YFn fun (i : Nat) => .int (i : Int)) :=
  walk_range.mono (fun _ _ => trivial) fun i H x H' _ _ y => ⟨y.1, y.2.trans (by show V.int (0 + (i : Int)) = _; rw [Int.zero_add])⟩
end Lk
/-! The defs of checks. -/
namespace Lk
open PySem PySem.Spec PyProof.Rows L2 C8
/-- a thing that is no tuple -/
inductive Nt (H : Hp) : V → Prop where
  | non : Nt H .non
  | bl (b : Bool) : Nt H (.bl b)
  | int (i : Int) : Nt H (.int i)
  | str (x : Str) : Nt H (.str x)
  | lst {a : Addr} {xs : List V} (e : H a = some (.lst xs)) : Nt H (.ref a)
  | dct {a : Addr} {kvs : List (Key × V)} (e : H a = some (.dK kvs)) : Nt H (.ref a)
theorem Nt.same {H H' : Hp} {x : V} (h : Nt H x) (s : Same H H') : Nt H' x := by
  cases h with
  | non => exact .non
  | bl b => exact .bl b
  | int i => exact .int i
  | str x => exact .str x
  | lst e => exact .lst (s _ _ e)
  | dct e => exact .dct (s _ _ e)
theorem Nt.ty {K : PySem.W.Frag} {H : Hp} {x : V} (h : Nt H x) : ∃ n : String, TyX K H x (.type n) ∧ kitB n "tuple" = some false := by
  cases h with
  | non => exact ⟨_, .base .non, show kitB "NoneType" "tuple" = some false by decide +kernel⟩
  | bl b => exact ⟨_, .base (.bl b), show kitB "bool" "tuple" = some false by decide +kernel⟩
  | int i => exact ⟨_, .base (.int i), show kitB "int" "tuple" = some false by decide +kernel⟩
  | str x => exact ⟨_, .base (.str x), show kitB "str" "tuple" = some false by decide +kernel⟩
  | lst e => exact ⟨_, .base (.lst e), show kitB "list" "tuple" = some false by decide +kernel⟩
  | dct e => exact ⟨_, .base (.dK e), show kitB "dict" "tuple" = some false by decide +kernel⟩
theorem kit_tt : kitB "tuple" "tuple" = some true := by decide +kernel
def wit : V → Int → Int → Bool
  | .int i, a, b => decide (a ≤ i ∧ i ≤ b)
  | _, _, _ => false
/-- the items are persons -/
def Ps (n : Nat) (xs : List V) : Prop := ∃ ns : List Nat, xs = nums ns ∧ ∀ k ∈ ns, k < n
/-- .. a crowd -/
def Cw (n : Nat) (xs : List V) : Prop := ∃ ns : List Nat, xs = nums ns ∧ Cr n ns
theorem wit_all {n : Nat} : ∀ {xs : List V}, (xs.all fun y => wit y 0 ((n : Int) - 1)) = true ↔ Ps n xs
  | [] => ⟨fun _ => ⟨[], rfl, fun _ h => nomatch h⟩, fun _ => rfl⟩
  | x :: xs => by
    rw [List.all_cons, Bool.and_eq_true, wit_all]
    constructor
    · rintro ⟨h, ns, rfl, hn⟩
      cases x with
      | int i =>
        have h : decide (0 ≤ i ∧ i ≤ (n : Int) - 1) = true := h
        rw [decide_eq_true_eq] at h
        obtain ⟨k, rfl⟩ := Int.eq_ofNat_of_zero_le h.1
        refine ⟨k :: ns, rfl, fun j hj => ?_⟩
        rcases List.mem_cons.mp hj with e | hj
        · rw [e]
          omega
        · exact hn j hj
      | _ => exact nomatch h
    · rintro ⟨ns, e, hn⟩
      cases ns with
      | nil => exact nomatch e
      | cons k ns =>
        obtain ⟨e1, e2⟩ := List.cons.inj e
        subst e1 e2
        refine ⟨?_, ns, rfl, fun j hj => hn j (List.mem_cons_of_mem _ hj)⟩
        show decide (0 ≤ (k : Int) ∧ (k : Int) ≤ (n : Int) - 1) = true
        have := hn k List.mem_cons_self
        exact decide_eq_true (by omega)
theorem adj : ∀ {ns : List Nat}, (∀ i, i + 1 < ns.length → ns.getD i 0 < ns.getD (i + 1) 0) ↔ ns.Pairwise (· < ·)
  | [] => ⟨fun _ => .nil, fun _ i h => by simp at h⟩
  | [x] => ⟨fun _ => List.pairwise_singleton _ _, fun _ i h => by simp at h⟩
  | x :: y :: r => by
    constructor
    · intro h
      have t : (y :: r).Pairwise (· < ·) := adj.mp fun i hi => h (i + 1) (Nat.succ_lt_succ hi)
      have h0 : x < y := h 0 (by simp)
      refine List.pairwise_cons.mpr ⟨fun z hz => ?_, t⟩
      rcases List.mem_cons.mp hz with e | hz
      · rw [e]
        exact h0
      · exact Nat.lt_trans h0 ((List.pairwise_cons.mp t).1 z hz)
    · intro h i hi
      obtain ⟨h1, h2⟩ := List.pairwise_cons.mp h
      cases i with
      | zero => exact h1 y List.mem_cons_self
      | succ i => exact adj.mpr h2 i (Nat.lt_of_succ_lt_succ hi)
theorem asc_all {ns : List Nat} : (((List.range (ns.length - 1)).map fun i => decide (ns.getD i 0 < ns.getD (i + 1) 0)).all id) = decide (ns.Pairwise (· < ·)) := by
  rw [Bool.eq_iff_iff, List.all_map, List.all_eq_true, decide_eq_true_eq, ← adj]
  constructor
  · intro h i hi
    exact of_decide_eq_true (h i (List.mem_range.mpr (by omega)))
  · intro h i hi
    exact decide_eq_true (h i (by have := List.mem_range.mp hi; omega))
theorem getD_at {ns : List Nat} {i : Nat} (h : i < ns.length) : ns[i]? = some (ns.getD i 0) := by
  rw [List.getD_eq_getElem?_getD, List.getElem?_eq_getElem h]
  rfl
theorem inV_nums {k : Nat} : ∀ {ns : List Nat}, inV (.int (k : Int)) (nums ns) = decide (k ∈ ns)
  | [] => rfl
  | x :: r => by
    show (eqV (.int (x : Int)) (.int (k : Int)) || inV (.int (k : Int)) (nums r)) = _
    rw [inV_nums]
    show (((x : Int) == (k : Int)) || decide (k ∈ r)) = _
    rw [Bool.eq_iff_iff, Bool.or_eq_true, decide_eq_true_eq, decide_eq_true_eq, List.mem_cons, beq_iff_eq]
    constructor
    · rintro (h | h)
      · exact Or.inl (Int.ofNat.inj h).symm
      · exact Or.inr h
    · rintro (h | h)
      · exact Or.inl (by rw [h])
      · exact Or.inr h
theorem not_take {ns : List Nat} (hn : ns.Nodup) {i k : Nat} (hk : ns[i]? = some k) : k ∉ ns.take i := fun h => by
  obtain ⟨j, hj⟩ := List.mem_iff_getElem?.mp h
  rw [List.getElem?_take] at hj
  split at hj
  · have := nd_ix hn hj hk
    omega
  · cases hj
theorem filter_more (f : Nat → Bool) (i : Nat) : (List.range (i + 1)).filter f = (List.range i).filter f ++ (if f i = true then [i] else []) := by
  rw [List.range_succ, List.filter_append]
  cases h : f i <;> simp [h]
theorem nums_flat (ns : List Nat) : (nums ns).all flatV = true := by
  unfold nums
  rw [List.all_map]
  exact List.all_eq_true.mpr fun _ _ => rfl
theorem bn_sum : ∀ ns : List Nat, (ns.map fun (k : Nat) => ((2 ^ k : Nat) : Int)).sum = ((bn ns : Nat) : Int)
  | [] => rfl
  | k :: r => by
    rw [List.map_cons, List.sum_cons, bn_sum r, bn_cons, Int.natCast_add]
theorem intBits_cr {m : Nat} (h : m < 4096) : Builtin.Int.intBits (m : Int) ≤ 12 ∧ (List.range (Builtin.Int.intBits (m : Int))).filter (fun p => m.testBit p) = cr m := by
  have hb : ∀ k, m.testBit k = true → k < Builtin.Int.intBits (m : Int) := fun k hk => by
    unfold Builtin.Int.intBits
    have hm : m ≠ 0 := fun e => by
      rw [e, Nat.zero_testBit] at hk
      cases hk
    rw [if_neg (by simp [hm]), Int.natAbs_natCast]
    exact bit_lt (Nat.lt_log2_self) hk
  have h12 : Builtin.Int.intBits (m : Int) ≤ 12 := PyProof.Rows.intBits_le (by rw [Int.natAbs_natCast]; exact h)
  refine ⟨h12, pw_ext (List.Pairwise.filter _ List.pairwise_lt_range) (cr_pw m) fun k => ?_⟩
  rw [List.mem_filter, mem_cr, List.mem_range]
  exact ⟨fun z => ⟨Nat.lt_of_lt_of_le z.1 h12, z.2⟩, fun z => ⟨hb k z.2, z.2⟩⟩
section
variable {P : Program} {w : World} {K : PySem.W.Frag} {mg : Str → Option Value} {base : Heap}
def spIsInteger : Sp := fun vs H Q _ => ∃ x, vs = [x] ∧ Thg H x ∧ Q (.bl (isI x)) H
theorem ok_is_integer (B : Bi mg) (h : Has K mg "is_integer" (topS 10) ["thing"]) : Cal P w K mg base 1 "is_integer" spIsInteger [] := by
  refine cal_of (N := ["thing"]) h (by decide +kernel) (fun vs H Q E h => ?_) (fun nd f cdv A outer s H vs Q E hr h => ?_)
  · obtain ⟨x, rfl, _⟩ := h
    rfl
  · obtain ⟨x, rfl, ht, q⟩ := h
    refine ⟨_, pss_one (ps_ret (pe_and (pe_callB call_isi (by rfl) B.isinstance (by decide +kernel) (pa_cons (pv 0) (pa_cons (pe_bltn (by rfl) B.int (v := .ty "int") (by decide +kernel) rfl) pa_nil)))
      (pe_one (pe_not (pe_callB call_isi (by rfl) B.isinstance (by decide +kernel) (pa_cons (pv 0) (pa_cons (pe_bltn (by rfl) B.bool (v := .ty "bool") (by decide +kernel) rfl) pa_nil))))))), ?_⟩
    obtain ⟨n, ty, h1, h2⟩ := ht.ty (K := K)
    refine ⟨x, rfl, x, .ty "int", _, _, _, rfl, .ty _, ty, kit_ty h1, _, rfl, ?_⟩
    cases x with
    | int i => exact ⟨_, rfl, _, .ty "bool", _, _, _, rfl, .ty _, ty, kit_ty h2, _, rfl, q⟩
    | bl b => exact ⟨_, rfl, _, .ty "bool", _, _, _, rfl, .ty _, ty, kit_ty h2, _, rfl, q⟩
    | _ => exact q
def spIsWithin : Sp := fun vs H Q _ => ∃ x a b, vs = [x, .int a, .int b] ∧ Thg H x ∧ Q (.bl (wit x a b)) H
theorem ok_is_within (B : Bi mg) (h : Has K mg "is_within" (topS 11) ["thing", "least", "most"]) (c1 : Cal P w K mg base 1 "is_integer" spIsInteger []) : Cal P w K mg base 2 "is_within" spIsWithin [] := by
  refine cal_of (N := ["thing", "least", "most"]) h (by decide +kernel) (fun vs H Q E h => ?_) (fun nd f cdv A outer s H vs Q E hr h => ?_)
  · obtain ⟨x, a, b, rfl, _⟩ := h
    rfl
  · obtain ⟨x, a, b, rfl, ht, q⟩ := h
    refine ⟨_, pss_one (ps_ret (pe_and (pe_c c1 hr (by decide) (by rfl) (pa_cons (pv 0) pa_nil)) (pe_one (pe_chain op_le op_le (pv 1) (pv 0) (pv 2))))), ?_⟩
    refine ⟨x, rfl, x, rfl, ht, _, rfl, ?_⟩
    cases x with
    | int i =>
      refine ⟨_, rfl, _, rfl, _, _, rfl, rfl, _, rfl, ite2 (fun e => ?_) (fun e => ?_)⟩
      · refine ⟨_, rfl, _, _, rfl, rfl, ?_⟩
        have z : wit (.int i) a b = decide (i ≤ b) := decide_eq_decide.mpr ⟨fun z => z.2, fun z => ⟨of_decide_eq_true e, z⟩⟩
        rw [z] at q
        exact q
      · have z : wit (.int i) a b = false := decide_eq_false fun z => e (decide_eq_true z.1)
        rw [z] at q
        exact q
    | _ => exact q
def spAsc : Sp := fun vs H Q _ => ∃ t ns, vs = [.ref t] ∧ H t = some (.tup (nums ns)) ∧ ns.length ≤ 1000 ∧ ∀ H', Same H H' → Q (.bl (decide (ns.Pairwise (· < ·)))) H'
theorem ok_asc (B : Bi mg) (h : Has K mg "are_ascending" (topS 12) ["things"]) : Cal P w K mg base 1 "are_ascending" spAsc [] := by
  refine cal_of (N := ["things", "at"]) h (by decide +kernel) (fun vs H Q E h => ?_) (fun nd f cdv A outer s H vs Q E hr h => ?_)
  · obtain ⟨t, ns, rfl, _⟩ := h
    rfl
  · obtain ⟨t, ns, rfl, ht, hz, q⟩ := h
    refine ⟨_, pss_one (ps_ret (pe_callB (cr_all rfl) (by rfl) B.all (by decide +kernel) (pa_cons (pe_lc (own := [("at", 1)]) (g := gName 1) (tt := tYes) rfl nd
      (pi_range2 (by rfl) B.range (pa_cons pe_int (pa_cons (pe_callB call_len_seq (by rfl) B.len PySem.boot_len (pa_cons (pv 0) pa_nil)) pa_nil)))
      (blkOk_by (own := [("at", 1)]) (N := ["things", "at"]) (sc := fnScope (topS 12)) (by decide +kernel)) (fun _ _ _ _ _ => pg_name (i := 1) nd rfl (Or.inl rfl)) (fun _ _ _ _ _ => pts_nil)
      (fun _ _ _ _ _ => pe_cmpR op_lt (pe_ix (ixT K) (pv 0) (pe_op op_sub (pv 1) pe_int) (fun _ _ => rfl)) (pe_ix (ixT K) (pv 0) (pv 1) (fun _ _ => rfl)) (nomark _))) pa_nil))), ?_⟩
    refine ⟨_, rfl, t, _, rfl, .inr (SqT.of ht), 1, _, rfl, ⟨by decide, by decide, by omega, by rw [nums_len]; omega⟩, fun D hD => ?_⟩
    have en : (((nums ns).length : Int) - 1).toNat = ns.length - 1 := by
      rw [nums_len]
      omega
    rw [en]
    refine lc_it walk_range (fun i => Acc H D ((List.range i).map fun i => V.bl (decide (ns.getD i 0 < ns.getD (i + 1) 0)))) (acc_nil hD) (fun _ _ _ _ => trivial) (fun i x H0 H1 hi a hy => ?_) (fun H1 a => ?_)
    · obtain ⟨rfl, rfl⟩ := hy
      have h1 : H1 t = some (.tup (nums ns)) := a.sm _ _ ht
      refine ⟨rfl, _, rfl, _, rfl, _, _, rfl, rfl, t, _, _, _, rfl, rfl, SqT.of h1, at_of (j := i) (by omega) (nums_at (getD_at (by omega))), _, rfl, _, rfl, t, _, _, _, rfl, rfl, SqT.of h1, at_of (j := i + 1) (by omega) (nums_at (getD_at (by omega))), _, _, rfl, rfl, ?_⟩
      refine a.put hD (by rw [List.length_map, List.length_range]; omega) ?_
      rw [range_more]
      congr 3
      exact decide_eq_decide.mpr ⟨fun z => by omega, fun z => by omega⟩
    · refine ⟨_, (List.range (ns.length - 1)).map fun i => decide (ns.getD i 0 < ns.getD (i + 1) 0), rfl, SqL.of (by rw [a.at_, List.map_map]; rfl), ?_⟩
      rw [asc_all]
      exact q _ a.sm
/-- is_crowd and its like: asked of a tuple, of what is none -/
def spOfThing (W : Nat → List V → Prop) : Sp := fun vs H Q _ => ∃ (n : Nat) (x : V), vs = [.int (n : Int), x] ∧
  ((∃ t xs, x = .ref t ∧ H t = some (.tup xs) ∧ xs.length ≤ 1000 ∧ (∀ y ∈ xs, Thg H y) ∧ ∀ H' b, Same H H' → (b = true ↔ W n xs) → Q (.bl b) H') ∨ (Nt H x ∧ Q (.bl false) H))
theorem spOfThing_len {W : Nat → List V → Prop} (vs H Q E) (h : spOfThing W vs H Q E) : vs.length = ["people", "thing"].length := by
  obtain ⟨n, x, rfl, _⟩ := h
  rfl
theorem ok_are_persons (B : Bi mg) (h : Has K mg "are_persons" (topS 13) ["people", "thing"]) (c1 : Cal P w K mg base 2 "is_within" spIsWithin []) : Cal P w K mg base 3 "are_persons" (spOfThing Ps) [] := by
  refine cal_of (N := ["people", "thing", "person"]) h (by decide +kernel) spOfThing_len (fun nd f cdv A outer s H vs Q E hr h => ?_)
  obtain ⟨n, x, rfl, h⟩ := h
  refine ⟨_, pss_one (ps_ret (pe_and (pe_callB call_isi (by rfl) B.isinstance (by decide +kernel) (pa_cons (pv 1) (pa_cons (pe_bltn (by rfl) B.tuple (v := .ty "tuple") (by decide +kernel) rfl) pa_nil)))
    (pe_one (pe_callB (cr_all rfl) (by rfl) B.all (by decide +kernel) (pa_cons (pe_lc (own := [("person", 2)]) (g := gName 2) (tt := tYes) rfl nd (piT K (pv 1))
      (blkOk_by (own := [("person", 2)]) (N := ["people", "thing", "person"]) (sc := fnScope (topS 13)) (by decide +kernel)) (fun _ _ _ _ _ => pg_name (i := 2) nd rfl (Or.inl rfl)) (fun _ _ _ _ _ => pts_nil)
      (fun _ _ _ _ _ => pe_c c1 hr (by decide) (by rfl) (pa_cons (pv 2) (pa_cons pe_int (pa_cons (pe_op op_sub (pv 0) pe_int) pa_nil))))) pa_nil))))), ?_⟩
  rcases h with ⟨t, xs, rfl, ht, hz, hx, q⟩ | ⟨hn, q⟩
  · refine ⟨_, rfl, _, .ty "tuple", _, _, _, rfl, .ty _, .base (.tup ht), kit_ty kit_tt, _, rfl, iteT ?_⟩
    refine ⟨_, rfl, t, rfl, ⟨_, SqT.of ht⟩, fun D hD => ?_⟩
    refine lc_it walk_tup (fun i => Acc H D ((xs.take i).map fun y => V.bl (wit y 0 ((n : Int) - 1)))) (acc_nil hD) (fun _ _ _ a => SqT.of (a.sm _ _ ht)) (fun i x H0 H1 hi a hy => ?_) (fun H1 a => ?_)
    · obtain ⟨rfl, hx1⟩ := hy
      refine ⟨rfl, _, rfl, _, rfl, _, _, rfl, rfl, _, _, _, rfl, (hx x (List.mem_of_getElem? hx1)).same a.sm, ?_⟩
      refine a.put hD (by rw [List.length_map, List.length_take]; omega) ?_
      rw [take_more _ hx1]
    · rw [List.take_length] at a
      refine ⟨_, xs.map fun y => wit y 0 ((n : Int) - 1), rfl, SqL.of (by rw [a.at_, List.map_map]; rfl), ?_⟩
      refine q _ _ a.sm ?_
      rw [List.all_map, ← wit_all]
      rfl
  · obtain ⟨T, ty, e⟩ := hn.ty (K := K)
    exact ⟨_, rfl, _, .ty "tuple", _, _, _, rfl, .ty _, ty, kit_ty e, _, rfl, iteF q⟩
theorem Ps.cw {n : Nat} {ns : List Nat} (h : Ps n (nums ns)) : Cw n (nums ns) ↔ ns.Pairwise (· < ·) := by
  obtain ⟨ms, e, hm⟩ := h
  have e := nums_inj e
  subst e
  refine ⟨fun ⟨ks, e, c⟩ => ?_, fun z => ⟨ns, rfl, hm, z⟩⟩
  rw [nums_inj e]
  exact c.2
theorem Cw.ps {n : Nat} {xs : List V} (h : Cw n xs) : Ps n xs := let ⟨ns, e, c⟩ := h; ⟨ns, e, c.1⟩
theorem ok_is_crowd (h : Has K mg "is_crowd" (topS 14) ["people", "thing"]) (c1 : Cal P w K mg base 3 "are_persons" (spOfThing Ps) []) (c2 : Cal P w K mg base 1 "are_ascending" spAsc []) : Cal P w K mg base 4 "is_crowd" (spOfThing Cw) [] := by
  refine cal_of (N := ["people", "thing"]) h (by decide +kernel) spOfThing_len (fun nd f cdv A outer s H vs Q E hr h => ?_)
  obtain ⟨n, x, rfl, h⟩ := h
  refine ⟨_, pss_one (ps_ret (pe_and (pe_c c1 hr (by decide) (by rfl) (pa_cons (pv 0) (pa_cons (pv 1) pa_nil))) (pe_one (pe_c c2 hr (by decide) (by rfl) (pa_cons (pv 1) pa_nil))))), ?_⟩
  refine ⟨_, rfl, _, rfl, n, x, rfl, ?_⟩
  rcases h with ⟨t, xs, rfl, ht, hz, hx, q⟩ | ⟨hn, q⟩
  · refine .inl ⟨t, xs, rfl, ht, hz, hx, fun H1 b s1 hb => ⟨_, rfl, ?_⟩⟩
    cases b with
    | false =>
      refine iteF (q _ _ s1 ⟨(fun z => nomatch z), fun z => ?_⟩)
      exact absurd (hb.mpr z.ps) Bool.false_ne_true
    | true =>
      obtain ⟨ns, rfl, hn⟩ := hb.mp rfl
      refine iteT ⟨_, rfl, t, ns, rfl, s1 _ _ ht, by rw [nums_len] at hz; exact hz, fun H2 s2 => q _ _ (s1.trans s2) ?_⟩
      rw [decide_eq_true_eq]
      exact (Ps.cw ⟨ns, rfl, hn⟩).symm
  · exact .inr ⟨hn, _, rfl, iteF q⟩
/-- asked of a lot -/
def spLot : Sp := fun vs H Q _ => ∃ (n : Nat) (t : Addr) (ns : List Nat), vs = [.int (n : Int), .ref t] ∧ H t = some (.tup (nums ns)) ∧ Cr n ns ∧ ns.length ≤ 1000 ∧ ∀ H', Same H H' → Q (.bl (decide (1 < ns.length))) H'
theorem nums_thg (H : Hp) (ns : List Nat) : ∀ y ∈ nums ns, Thg H y := fun y hy => by
  obtain ⟨k, _, rfl⟩ := List.mem_map.mp hy
  exact .int _
theorem ok_is_lot (B : Bi mg) (h : Has K mg "is_lot" (topS 15) ["people", "thing"]) (c1 : Cal P w K mg base 4 "is_crowd" (spOfThing Cw) []) : Cal P w K mg base 5 "is_lot" spLot [] := by
  refine cal_of (N := ["people", "thing"]) h (by decide +kernel) (fun vs H Q E h => ?_) (fun nd f cdv A outer s H vs Q E hr h => ?_)
  · obtain ⟨n, t, ns, rfl, _⟩ := h
    rfl
  · obtain ⟨n, t, ns, rfl, ht, hc, hz, q⟩ := h
    refine ⟨_, pss_one (ps_ret (pe_and (pe_c c1 hr (by decide) (by rfl) (pa_cons (pv 0) (pa_cons (pv 1) pa_nil))) (pe_one (pe_cmpR op_gt (pe_callB call_len_seq (by rfl) B.len PySem.boot_len (pa_cons (pv 1) pa_nil)) pe_int (nomark _))))), ?_⟩
    refine ⟨_, rfl, _, rfl, n, _, rfl, .inl ⟨t, _, rfl, ht, by rw [nums_len]; exact hz, nums_thg _ _, fun H1 b s1 hb => ⟨_, rfl, ?_⟩⟩⟩
    rw [hb.mpr ⟨ns, rfl, hc⟩]
    refine iteT ⟨_, rfl, t, _, rfl, .inr (SqT.of (s1 _ _ ht)), _, _, rfl, rfl, ?_⟩
    have z : decide (1 < ((nums ns).length : Int)) = decide (1 < ns.length) := by
      rw [nums_len]
      exact decide_eq_decide.mpr ⟨fun z => by omega, fun z => by omega⟩
    have q := q H1 s1
    rw [← z] at q
    exact q
/-- asked of a whole list of the people -/
def spOrder : Sp := fun vs H Q _ => ∃ (n : Nat) (t : Addr) (ns : List Nat), vs = [.int (n : Int), .ref t] ∧ H t = some (.tup (nums ns)) ∧ ns.Nodup ∧ (∀ k ∈ ns, k < n) ∧ ns.length = n ∧ n ≤ 1000 ∧ ∀ H', Same H H' → Q (.bl true) H'
theorem spOrder_len (vs H Q E) (h : spOrder vs H Q E) : vs.length = ["people", "thing"].length := by
  obtain ⟨n, x, ns, rfl, _⟩ := h
  rfl
theorem ok_is_row (B : Bi mg) (h : Has K mg "is_row" (topS 16) ["people", "thing"]) (c1 : Cal P w K mg base 3 "are_persons" (spOfThing Ps) []) : Cal P w K mg base 4 "is_row" spOrder [] := by
  refine cal_of (N := ["people", "thing", "person"]) h (by decide +kernel) spOrder_len (fun nd f cdv A outer s H vs Q E hr h => ?_)
  obtain ⟨n, t, ns, rfl, ht, hn, hp, hl, hz, q⟩ := h
  refine ⟨_, pss_one (ps_ret (pe_and (pe_c c1 hr (by decide) (by rfl) (pa_cons (pv 0) (pa_cons (pv 1) pa_nil))) (pe_one (pe_cmpR op_eq
    (pe_callB call_lenD (by rfl) B.len PySem.boot_len (pa_cons (pe_dc (own := [("person", 2)]) (g := gName 2) (tt := tYes) rfl nd (piT K (pv 1))
      (blkOk_by (own := [("person", 2)]) (N := ["people", "thing", "person"]) (sc := fnScope (topS 16)) (by decide +kernel)) (fun _ _ _ _ _ => pg_name (i := 2) nd rfl (Or.inl rfl)) (fun _ _ _ _ _ => pts_nil) (fun _ _ _ _ _ => pv 2) (fun _ _ _ _ _ => pe_bl)) pa_nil))
    (pe_callB call_len_seq (by rfl) B.len PySem.boot_len (pa_cons (pv 1) pa_nil)) (nomark _))))), ?_⟩
  refine ⟨_, rfl, _, rfl, n, _, rfl, .inl ⟨t, _, rfl, ht, by rw [nums_len]; omega, nums_thg _ _, fun H1 b s1 hb => ⟨_, rfl, ?_⟩⟩⟩
  rw [hb.mpr ⟨ns, rfl, hp⟩]
  have ht1 := s1 _ _ ht
  refine iteT ⟨_, rfl, t, rfl, ⟨_, SqT.of ht1⟩, fun D hD => ?_⟩
  refine dc_tup (K := K) (a := t) (xs := nums ns) (fun i H' => Same H1 H' ∧ H' D = some (.dK ((ns.take i).map fun (k : Nat) => ((Sum.inl (k : Int) : Key), V.bl true)))) ⟨same_new hD, upd_same⟩ (fun _ _ _ a => SqT.of (a.1 _ _ ht1)) (fun i x H2 hx a => ?_) (fun H2 a => ?_)
  · obtain ⟨k, hk, rfl⟩ := nums_get hx
    refine ⟨rfl, _, rfl, _, .inl (k : Int), rfl, a.2, ?_, fun b o e => ?_, ?_⟩
    · rw [List.length_map, List.length_take]
      exact szl (by omega)
    · rw [upd_ne (ne_of_none e hD)]
      exact a.1 _ _ e
    · rw [upd_same, putK_new, take_more _ hk]
      cases e : valV ((ns.take i).map fun (k : Nat) => ((Sum.inl (k : Int) : Key), V.bl true)) (.inl (k : Int)) with
      | none => rfl
      | some v =>
        exfalso
        have m := valV_in e
        rw [List.map_map] at m
        obtain ⟨j, hj, ej⟩ := List.mem_map.mp m
        have ej : (Sum.inl (j : Int) : Key) = Sum.inl (k : Int) := ej
        have ej : j = k := Int.ofNat.inj (Sum.inl.inj ej)
        subst ej
        exact not_take hn hk hj
  · have e : ns.take (nums ns).length = ns := by rw [nums_len, List.take_length]
    rw [e] at a
    refine ⟨D, _, rfl, a.2, _, rfl, t, _, rfl, .inr (SqT.of (a.1 _ _ ht1)), rfl, ?_⟩
    have z : decide (V.int ((ns.map fun (k : Nat) => ((Sum.inl (k : Int) : Key), V.bl true)).length : Int) = V.int ((nums ns).length : Int)) = true := by
      rw [nums_len, List.length_map]
      exact decide_eq_true rfl
    have q := q H2 (s1.trans a.1)
    rw [← z] at q
    exact q
theorem ok_is_order (B : Bi mg) (h : Has K mg "is_order" (topS 17) ["people", "thing"]) (c1 : Cal P w K mg base 4 "is_row" spOrder []) : Cal P w K mg base 5 "is_order" spOrder [] := by
  refine cal_of (N := ["people", "thing"]) h (by decide +kernel) spOrder_len (fun nd f cdv A outer s H vs Q E hr h => ?_)
  obtain ⟨n, t, ns, rfl, ht, hn, hp, hl, hz, q⟩ := h
  refine ⟨_, pss_one (ps_ret (pe_and (pe_c c1 hr (by decide) (by rfl) (pa_cons (pv 0) (pa_cons (pv 1) pa_nil))) (pe_one (pe_cmpR op_eq (pe_callB call_len_seq (by rfl) B.len PySem.boot_len (pa_cons (pv 1) pa_nil)) (pv 0) (nomark _))))), ?_⟩
  refine ⟨_, rfl, _, rfl, n, t, ns, rfl, ht, hn, hp, hl, hz, fun H1 s1 => ⟨_, rfl, iteT ⟨_, rfl, t, _, rfl, .inr (SqT.of (s1 _ _ ht)), _, rfl, rfl, ?_⟩⟩⟩
  have z : decide (V.int ((nums ns).length : Int) = V.int (n : Int)) = true := by
    rw [nums_len, hl]
    exact decide_eq_true rfl
  have q := q H1 s1
  rw [← z] at q
  exact q
/-- a crowd is looked at, and let through -/
def spCheck : Sp := fun vs H Q _ => ∃ (n : Nat) (t : Addr) (ns : List Nat), vs = [.int (n : Int), .ref t] ∧ H t = some (.tup (nums ns)) ∧ Cr n ns ∧ ns.length ≤ 1000 ∧ ∀ H', Same H H' → Q .non H'
theorem ok_check_crowd (h : Has K mg "check_crowd" (topS 18) ["people", "thing"]) (c1 : Cal P w K mg base 4 "is_crowd" (spOfThing Cw) []) : Cal P w K mg base 5 "check_crowd" spCheck [] := by
  refine cal_of (N := ["people", "thing"]) h (by decide +kernel) (fun vs H Q E h => ?_) (fun nd f cdv A outer s H vs Q E hr h => ?_)
  · obtain ⟨n, t, ns, rfl, _⟩ := h
    rfl
  · obtain ⟨n, t, ns, rfl, ht, hc, hz, q⟩ := h
    refine ⟨_, pss_one (ps_if (pt_not (pt_val (pe_c c1 hr (by decide) (by rfl) (pa_cons (pv 0) (pa_cons (pv 1) pa_nil))))) pss_never pss_nil), ?_⟩
    refine ⟨_, rfl, _, rfl, n, _, rfl, .inl ⟨t, _, rfl, ht, by rw [nums_len]; exact hz, nums_thg _ _, fun H1 b s1 hb => ⟨_, rfl, ?_⟩⟩⟩
    rw [hb.mpr ⟨ns, rfl, hc⟩]
    exact iteF (q H1 s1)
def spMember : Sp := fun vs H Q _ => ∃ (t : Addr) (ns : List Nat) (k : Nat), vs = [.ref t, .int (k : Int)] ∧ H t = some (.tup (nums ns)) ∧ k ∈ ns ∧ Q .non H
theorem ok_check_member (h : Has K mg "check_member" (topS 19) ["crowd", "thing"]) (c1 : Cal P w K mg base 1 "is_integer" spIsInteger []) : Cal P w K mg base 2 "check_member" spMember [] := by
  refine cal_of (N := ["crowd", "thing"]) h (by decide +kernel) (fun vs H Q E h => ?_) (fun nd f cdv A outer s H vs Q E hr h => ?_)
  · obtain ⟨t, ns, k, rfl, _⟩ := h
    rfl
  · obtain ⟨t, ns, k, rfl, ht, hk, q⟩ := h
    refine ⟨_, pss_one (ps_if (PW.pt (pw_or (pt_not (pt_val (pe_c c1 hr (by decide) (by rfl) (pa_cons (pv 1) pa_nil)))) (pw_or1 (pt_cmpR op_notIn_seq (pv 1) (pv 0) (by rfl))))) pss_never pss_nil), ?_⟩
    refine ⟨_, rfl, _, rfl, .int _, _, rfl, iteF ⟨_, rfl, _, rfl, t, _, rfl, .inr (SqT.of ht), rfl, nums_flat _, ?_⟩⟩
    rw [inV_nums, decide_eq_true hk]
    exact ⟨_, rfl, iteF q⟩
def spBitsOf : Sp := fun vs H Q _ => ∃ (t : Addr) (ns : List Nat), vs = [.ref t] ∧ H t = some (.tup (nums ns)) ∧ ns.length ≤ 1000 ∧ (∀ k ∈ ns, k ≤ 1000) ∧ ∀ H', Same H H' → Q (.int ((bn ns : Nat) : Int)) H'
theorem ok_bits_of (B : Bi mg) (h : Has K mg "bits_of" (topS 20) ["crowd"]) : Cal P w K mg base 1 "bits_of" spBitsOf [] := by
  refine cal_of (N := ["crowd", "person"]) h (by decide +kernel) (fun vs H Q E h => ?_) (fun nd f cdv A outer s H vs Q E hr h => ?_)
  · obtain ⟨t, ns, rfl, _⟩ := h
    rfl
  · obtain ⟨t, ns, rfl, ht, hz, hk, q⟩ := h
    refine ⟨_, pss_one (ps_ret (pe_callB (cr_sum rfl) (by rfl) B.sum (by decide +kernel) (pa_cons (pe_lc (own := [("person", 1)]) (g := gName 1) (tt := tYes) rfl nd (piT K (pv 0))
      (blkOk_by (own := [("person", 1)]) (N := ["crowd", "person"]) (sc := fnScope (topS 20)) (by decide +kernel)) (fun _ _ _ _ _ => pg_name (i := 1) nd rfl (Or.inl rfl)) (fun _ _ _ _ _ => pts_nil)
      (fun _ _ _ _ _ => pe_op n_one pe_int (pv 1))) pa_nil))), ?_⟩
    refine ⟨_, rfl, t, rfl, ⟨_, SqT.of ht⟩, fun D hD => ?_⟩
    refine lc_it walk_tup (fun i => Acc H D ((ns.take i).map fun (k : Nat) => V.int ((2 ^ k : Nat) : Int))) (acc_nil hD) (fun _ _ _ a => SqT.of (a.sm _ _ ht)) (fun i x H0 H1 hi a hy => ?_) (fun H1 a => ?_)
    · obtain ⟨rfl, hx1⟩ := hy
      obtain ⟨k, hk1, rfl⟩ := nums_get hx1
      refine ⟨rfl, _, rfl, k, rfl, rfl, hk k (List.mem_of_getElem? hk1), ?_⟩
      refine a.put hD (by rw [List.length_map, List.length_take]; omega) ?_
      rw [take_more _ hk1]
    · rw [nums_len, List.take_length] at a
      refine ⟨_, ns.map fun (k : Nat) => ((2 ^ k : Nat) : Int), rfl, SqL.of (by rw [a.at_, List.map_map]; rfl), ?_⟩
      rw [bn_sum]
      exact q _ a.sm
def spCrowdOf : Sp := fun vs H Q _ => ∃ (m : Nat), vs = [.int (m : Int)] ∧ m < 4096 ∧ ∀ H' p, Same H H' → H' p = some (.tup (nums (cr m))) → Q (.ref p) H'
theorem ok_crowd_of (B : Bi mg) (h : Has K mg "crowd_of" (topS 21) ["bits"]) : Cal P w K mg base 1 "crowd_of" spCrowdOf [] := by
  refine cal_of (N := ["bits", "person"]) h (by decide +kernel) (fun vs H Q E h => ?_) (fun nd f cdv A outer s H vs Q E hr h => ?_)
  · obtain ⟨m, rfl, _⟩ := h
    rfl
  · obtain ⟨m, rfl, hm, q⟩ := h
    refine ⟨_, pss_one (ps_ret (pe_callTy call_tuple_of (by rfl) B.tuple (by decide +kernel) (pa_cons (pe_lc (own := [("person", 1)]) (g := gName 1) rfl nd
      (pi_range1 (by rfl) B.range (pa_cons (pe_bits (pv 0)) pa_nil))
      (blkOk_by (own := [("person", 1)]) (N := ["bits", "person"]) (sc := fnScope (topS 21)) (by decide +kernel)) (fun _ _ _ _ _ => pg_name (i := 1) nd rfl (Or.inl rfl))
      (fun _ _ _ _ _ => pts_one (pt_cmpR op_eq (pe_op n_and (pe_op n_shr (pv 0) (pv 1)) pe_int) pe_int (nomark _)))
      (fun _ _ _ _ _ => pv 1)) pa_nil))), ?_⟩
    obtain ⟨h12, hcr⟩ := intBits_cr hm
    refine ⟨_, rfl, _, rfl, _, rfl, by omega, by omega, fun D hD => ?_⟩
    rw [Int.toNat_natCast]
    refine lc_it walk_r0 (fun i => Acc H D (nums ((List.range i).filter fun p => m.testBit p))) (acc_nil hD) (fun _ _ _ _ => trivial) (fun i x H0 H1 hi a hy => ?_) (fun H1 a => ?_)
    · obtain ⟨rfl, rfl⟩ := hy
      refine ⟨rfl, _, rfl, _, rfl, m, i, rfl, rfl, _, 1, rfl, rfl, rfl, _, rfl, ?_⟩
      have e : decide (V.int ((m / 2 ^ i &&& 1 : Nat) : Int) = V.int 1) = m.testBit i := bit_dec m i
      rw [e]
      cases hb : m.testBit i with
      | false =>
        refine iteF ?_
        rw [filter_more, hb]
        simp only [Bool.false_eq_true, if_false, List.append_nil]
        exact a
      | true =>
        refine iteT ⟨_, rfl, a.put hD ?_ ?_⟩
        · rw [nums_len]
          exact Nat.le_trans (List.length_filter_le _ _) (by rw [List.length_range]; omega)
        · rw [filter_more, hb, nums_app]
          rfl
    · rw [hcr] at a
      refine ⟨D, _, rfl, .inl ⟨SqL.of a.at_, fun p hp => q _ p (a.sm.trans (same_new hp)) upd_same⟩⟩
def spHolds : Sp := fun vs H Q _ => ∃ (a b : Nat), vs = [.int (a : Int), .int (b : Int)] ∧ Q (.bl (decide (a &&& b = b))) H
theorem ok_holds (h : Has K mg "holds" (topS 22) ["bits", "some"]) : Cal P w K mg base 1 "holds" spHolds [] := by
  refine cal_of (N := ["bits", "some"]) h (by decide +kernel) (fun vs H Q E h => ?_) (fun nd f cdv A outer s H vs Q E hr h => ?_)
  · obtain ⟨a, b, rfl, _⟩ := h
    rfl
  · obtain ⟨a, b, rfl, q⟩ := h
    refine ⟨_, pss_one (ps_ret (pe_cmpR op_eq (pe_op n_and (pv 0) (pv 1)) (pv 1) (nomark _))), ?_⟩
    refine ⟨_, rfl, _, rfl, a, b, rfl, rfl, _, rfl, rfl, ?_⟩
    rw [dec_int]
    exact q
end
end Lk
/-! Rules that the layer lacks: enumerate of a tuple, max of pairs, set of a list of ints, sorted of a set of rows of any lengths, a tuple turned round. -/
namespace Lk
open PySem PySem.Spec PyProof.Rows L2 C8

/-! ### enumerate(t), t a tuple -/
theorem enum_made {v : Value} {o : Obj} {G : Heap → Prop} (B : Begins v o G) :
    Meets (Builtin.«enumerate.__new__» ⟨[.type "enumerate", v], []⟩) (fun _ R s => G s.heap ∧
      R (.ok (.ret (.ref (s.heap.push o).objs.size))) { s with heap := (s.heap.push o).push { cls := .type "enumerate", data := .fields #[.none, .bool false, .ref s.heap.objs.size, rawInt 0, .none, .none] } }) :=
  .of_wp fun prog w A R s hs => by
    obtain ⟨hp, gs, dr, tk, os⟩ := s
    obtain ⟨hG, hR⟩ := hs
    have sub1 := sub_enumerate
    have iter1 : ∀ {A' : Around} {E : Value → Shared → Prop} {Q : Value → Shared → Prop}, Q (.ref hp.objs.size) ⟨hp.push o, gs, dr, tk, os⟩ → wpAny (model prog w) A' (pyIter v) Q E ⟨hp, gs, dr, tk, os⟩ :=
      fun q => B.iter prog w _ _ ⟨hp, gs, dr, tk, os⟩ _ hG q
    wp_walk using iter1
    refine wpAny_stack_any fun st => wpAny_pure ?_
    split
    · rename_i c _ _ _ _ _
      cases (c == Value.type "enumerate") <;> (wp_walk using iter1; exact ⟨_, rfl, hR⟩)
    · wp_walk using iter1
      exact ⟨_, rfl, hR⟩
theorem call_enum {prog : Program} {w : World} {A : Around} {E : Value → Shared → Prop} {s : Shared} {v : Value} {o : Obj} {G : Heap → Prop} {Q : Value → Shared → Prop} (B : Begins v o G) (hG : G s.heap)
    (h : ∀ h', IsEnum h' (s.heap.objs.size + 1) s.heap.objs.size 0 .none → h'.get? s.heap.objs.size = some o → h'.objs.size = s.heap.objs.size + 2 →
      (∀ b ob, s.heap.get? b = some ob → h'.get? b = some ob) → Q (.ref (s.heap.objs.size + 1)) { s with heap := h' }) : wpAny (model prog w) A (call (.type "enumerate") [v]) Q E s := by
  refine callType_new F.called_enumerate (by decide) (F.typeCall_enumerate_1 _) (F.newCall_enumerate_1 _) (fun obj => F.args_object_init_2 obj _) F.entry_enumerate_new (enum_made B) ⟨hG, ?_⟩
  have z1 : (s.heap.push o).objs.size = s.heap.objs.size + 1 := Heap.size_push ..
  show _ ∧ _
  rw [z1]
  have he : IsEnum ((s.heap.push o).push { cls := .type "enumerate", data := .fields #[.none, .bool false, .ref s.heap.objs.size, rawInt 0, .none, .none] }) (s.heap.objs.size + 1) s.heap.objs.size 0 .none := by
    have q := Heap.get?_push_size (s.heap.push o) (o := { cls := .type "enumerate", data := .fields #[.none, .bool false, .ref s.heap.objs.size, rawInt 0, .none, .none] }) rfl
    rw [z1] at q
    exact q
  refine ⟨⟨_, he, rfl⟩, h _ he (Heap.get?_push_of_some _ (Heap.get?_push_size _ B.free)) (by rw [Heap.size_push, z1]) fun b ob x => Heap.get?_push_of_some _ (Heap.get?_push_of_some _ x)⟩
/-- the tuple's items, each in a new pair with its number -/
def IteT (K : PySem.W.Frag) (a : Addr) : It :=
  ⟨fun i H => ∃ (xs : List V) (x : V), SqT K H a xs ∧ xs[i]? = some x, fun i H v H' => ∃ T x, v = .ref T ∧ H T = none ∧ H' = upd H T (.tup [.int (i : Nat), x]) ∧ ∀ xs, SqT K H a xs → xs[i]? = some x, fun i H => ∃ xs : List V, SqT K H a xs ∧ xs.length = i⟩
theorem turn_enumT {P : Program} {w : World} {K : PySem.W.Frag} {elts : List Expr} {kk : Nat} {tpos : Pos} {a e it : Addr} (hei : e ≠ it) (hea : e ≠ a) (hia : a ≠ it) (items : Array Value) :
    Turn P w K (.Tuple elts kk tpos) (IteT K a) [e, it] e (fun i h => (∃ old, IsEnum h e it ((i : Nat) : Int) old) ∧ h.IsTupleIter it a i) where
  mem := by simp
  obj := fun i h st b hb => by
    obtain ⟨⟨old, he⟩, o, ho, hc, hd⟩ := st
    rcases List.mem_cons.mp hb with z | z
    · subst z
      exact ⟨_, he, fun v q => nomatch q⟩
    · rw [List.mem_singleton.mp z]
      exact ⟨o, ho, fun v q => by rw [hd] at q; cases q⟩
  keep := fun i h h' st k => by
    obtain ⟨⟨old, he⟩, hi⟩ := st
    exact ⟨⟨old, k e (by simp) _ he⟩, hi.at fun o q => k it (by simp) o q⟩
  item := by
    intro X hP hw hK hc i pins s σ H E I hf st hg
    subst hP hw hK
    obtain ⟨⟨old, he⟩, hit⟩ := st
    obtain ⟨xs, x, hq, hx⟩ := hg
    obtain ⟨its, rv, p, hz⟩ := I.tuple hq
    obtain ⟨u, hu, ru⟩ := rv.get hx
    have hel : e < s.heap.objs.size := Heap.lt_size he
    have hil : it < s.heap.objs.size := by
      obtain ⟨_, q, _⟩ := hit
      exact Heap.lt_size q
    have hp : s.heap.IsTuple a its.toArray := p
    have hlt : i < its.toArray.size := by
      rw [List.size_toArray]
      exact (List.getElem?_eq_some_iff.mp hu).1
    have D := Draws.tuple (prog := X.prog) (w := X.w) (A := X.A.in1) (show X.A.in1.handled = none from I.ok.hd hc) it a hia its.toArray
    refine wpAny_pyNext_enum_itemD D he ⟨hit, hp⟩ hlt hei (by simp [hei, hea]) fun y h' tk hy ho hit' hT hsz hk => ?_
    have ey : y = u := by
      have hy' : its[i]? = some y := by simpa using hy
      rw [hu] at hy'
      exact (Option.some.inj hy').symm
    subst ey
    refine ⟨_, rfl, wpAny_letOwnedTupleGo_enum (s := { s with heap := h', toks := tk + 1 }) ho fun h'' he' sb => ?_⟩
    have hT2 : h''.get? s.heap.objs.size = some { cls := .type "tuple", data := .seq #[.int i tk, y] } := (sb.2 _ (Nat.ne_of_gt hel)).trans hT
    have new : ObjOk X.prog X.w (upd H s.heap.objs.size (.tup [.int (i : Nat), x])) h'' s.heap.objs.size (.tup [.int (i : Nat), x]) :=
      ⟨szl' (n := 2) (by decide), [.int i tk, y], .cons ⟨_, rfl⟩ (.cons ru .nil), ⟨_, hT2, rfl, _, rfl⟩⟩
    have I1 : Inv X pins σ (upd H s.heap.objs.size (.tup [.int (i : Nat), x])) { s with heap := h'', toks := tk + 1 } :=
      I.turnedNew (ch := [e, it]) (fun b ob hb q => (sb.2 b (fun z => hb (by simp [z]))).trans (hk b ob (fun z => hb (by simp [z])) (fun z => hb (by simp [z])) q)) hf (Nat.le_refl _) new
    refine ⟨.ref s.heap.objs.size, _, I1, rfl, ⟨_, x, rfl, I.hok.fresh (Nat.le_refl _), rfl, fun ys hy => by rw [I.tuple_inj hy hq]; exact hx⟩, ⟨⟨y, ?_⟩, hit'.1.at fun o q => (sb.2 it (Ne.symm hei)).trans q⟩, fun b hb => ?_⟩
    · rw [show ((i + 1 : Nat) : Int) = (i : Int) + 1 by omega]
      exact he'
    · have hb' : b < s.heap.objs.size := by
        rcases List.mem_cons.mp hb with z | z
        · rw [z]
          exact hel
        · rw [List.mem_singleton.mp z]
          exact hil
      rw [upd_ne (Nat.ne_of_lt hb')]
      exact (hf b hb).1
  done := by
    intro X hP hw hK hc i pins s σ H E I hf st hg
    subst hP hw hK
    obtain ⟨⟨old, he⟩, hit⟩ := st
    obtain ⟨xs, hq, hx⟩ := hg
    obtain ⟨its, rv, p, hz⟩ := I.tuple hq
    obtain ⟨f0, f1, f2, f3, f4, f5⟩ := hf it (by simp)
    have hn : i = its.toArray.size := by
      rw [List.size_toArray, ← rv.length]
      exact hx.symm
    have D := Draws.tuple (prog := X.prog) (w := X.w) (A := X.A.in1) (show X.A.in1.handled = none from I.ok.hd hc) it a hia its.toArray
    subst hn
    exact wpAny_pyNext_enum_endD D he ⟨hit, p⟩ fun h' eb => ⟨rfl, I.turned (t' := s.toks) (fun b o hb q => eb b o hb q) f0 f1 f3 f4 f5⟩
  self := fun A i s Q E st h => by
    obtain ⟨⟨_, he⟩, _⟩ := st
    exact wpAny_pyIter_enum he h
def iEnumT (K : PySem.W.Frag) (ta : TA) : TI := fun σ H R => ta σ H fun vs H1 => ∃ a xs, vs = [.ref a] ∧ SqT K H1 a xs ∧ R (IteT K a) H1
theorem pi_enumT (K : PySem.W.Frag) {X : Cx} {e : Expr} {ta : TA} {p pos tpos : Pos} {elts : List Expr} {kk : Nat} (hg : Gl X "enumerate") (hm : X.mg "enumerate" = none) (ha : PA X [e] ta) (hK : X.K = K := by rfl) (hs : starEach [e] X.env = [(false, eval e X.env)] := by rfl) :
    PI X (.Tuple elts kk tpos) (.Call (.Name "enumerate" p) [e] [] pos) (iEnumT K ta) := by
  subst hK
  refine ⟨fun pins s σ H R I h => ?_⟩
  refine Call_ (ld_blt I hg hm boot_enumerate (PyProof.Rows.callWith_type1 (thn (ha.run pos pins s σ H _ I h) fun us s1 ⟨vs, H1, I1, r1, a, xs, ex, hq, q⟩ => ?_) hs rfl))
  subst ex
  rw [Vals.ref1 r1]
  obtain ⟨its, rv, p', hz⟩ := I1.tuple hq
  have hal : a < s1.heap.objs.size := p'.lt
  refine call_enum (begins_tuple a its.toArray) (show s1.heap.IsTuple a its.toArray from p') fun h' he hit hsz hk => wpAny_pyIter_enum he ?_
  have I2 : Inv X pins σ H1 { s1 with heap := h' } := I1.kept (t' := s1.toks) hk
  refine ⟨s1.heap.objs.size + 1, [s1.heap.objs.size + 1, s1.heap.objs.size], _, _, H1, rfl, I2, turn_enumT (Nat.succ_ne_self _) (Nat.ne_of_gt (Nat.lt_succ_of_lt hal)) (Nat.ne_of_lt hal) its.toArray, ⟨⟨.none, he⟩, ⟨_, hit, rfl, rfl⟩⟩, fun b hb => ?_, q⟩
  have hle : s1.heap.objs.size ≤ b := by
    rcases List.mem_cons.mp hb with z | z
    · rw [z]
      exact Nat.le_succ _
    · rw [List.mem_singleton.mp z]
      exact Nat.le_refl _
  exact I1.fpOk hle (I1.hok.fresh hle)
theorem walk_enumT {K : PySem.W.Frag} {a : Addr} {xs : List V} : Walk (IteT K a) xs.length (fun H => SqT K H a xs) (YPair (fun i => some (.int (i : Nat))) (fun i => xs[i]?)) := by
  refine ⟨fun i _ hi q => ⟨xs, xs[i], q, by simp [hi]⟩, fun _ q => ⟨xs, q, rfl⟩, fun i H v H' _ q y => ?_⟩
  obtain ⟨T, x, h1, h2, h3, h4⟩ := y
  exact ⟨T, .int (i : Nat), x, h1, h2, h3, rfl, h4 xs q⟩

/-! ### a tuple turned round -/
theorem slice_back {prog : Program} {w : World} {A : Around} {E : Value → Shared → Prop} {s : Shared} {sl : Addr} {n : Nat} {vs : Value} {Q : Int × Int × Nat → Shared → Prop} (hs : s.heap.IsSliceOf sl .none .none vs) (ps : IsPart vs (some (-1)))
    (h : Q ((n : Int) - 1, -1, n) s) : wpAny (model prog w) A (Builtin.Slice.sliceApplied (.ref sl) (pure (n : Int))) Q E s := by
  obtain ⟨os, hos, _, hds⟩ := id hs
  unfold Builtin.Slice.sliceApplied Builtin.Slice.sliceFields
  refine wpAny_bind (wpAny_bind (wpAny_field hos hds (x := .none) rfl (wpAny_bind (wpAny_field hos hds (x := .none) rfl (wpAny_bind (wpAny_field hos hds (x := vs) rfl (wpAny_pure ?_)))))))
  refine wpAny_bind (HT.slicePart_ ps ?_)
  show wpAny _ _ (if ((-1 : Int) == 0) = true then _ else _) _ _ s
  rw [if_neg (by decide)]
  refine wpAny_bind (HT.slicePart_ .none (wpAny_bind (HT.slicePart_ .none (wpAny_bind (wpAny_pure ?_)))))
  have e : Builtin.Slice.slicePlaces ((n : Int) - 1) (-1) (-1) = n := by
    unfold Builtin.Slice.slicePlaces
    rw [if_neg (by decide)]
    by_cases hn : (n : Int) - 1 > -1
    · rw [if_pos hn, show -(-1 : Int) = 1 by decide, Int.ediv_one]
      omega
    · rw [if_neg hn]
      omega
  have e2 : Builtin.Slice.sliceAdjust none none (-1) (n : Int) = ((n : Int) - 1, -1) := rfl
  show wpAny _ _ (match Builtin.Slice.sliceAdjust none none (-1) (n : Int) with | (lo, hi) => pure (lo, (-1 : Int), Builtin.Slice.slicePlaces lo hi (-1))) _ _ s
  rw [e2]
  show wpAny _ _ (pure ((n : Int) - 1, (-1 : Int), Builtin.Slice.slicePlaces ((n : Int) - 1) (-1) (-1))) _ _ s
  rw [e]
  exact wpAny_pure h
theorem pick_back (xs : Array Value) : ((List.range xs.size).filterMap fun (m : Nat) => xs[((xs.size : Int) - 1 + (m : Int) * -1).toNat]?).toArray = xs.toList.reverse.toArray := by
  congr 1
  refine List.ext_getElem? fun i => ?_
  have key : ∀ k, k ≤ xs.size → (List.range k).filterMap (fun (m : Nat) => xs[((xs.size : Int) - 1 + (m : Int) * -1).toNat]?) = xs.toList.reverse.take k := by
    intro k
    induction k with
    | zero => intro _; rfl
    | succ k ih =>
      intro hk
      have hx : xs[((xs.size : Int) - 1 + (k : Int) * -1).toNat]? = xs.toList.reverse[k]? := by
        rw [List.getElem?_reverse (by rw [Array.length_toList]; omega), Array.getElem?_toList, Array.length_toList]
        congr 1
        omega
      rw [List.range_succ, List.filterMap_append, ih (by omega), List.take_add_one, List.filterMap_cons, hx]
      cases xs.toList.reverse[k]? <;> rfl
  rw [key _ (Nat.le_refl _), List.take_of_length_le (by rw [List.length_reverse, Array.length_toList]; exact Nat.le_refl _)]
theorem getItem_back {prog : Program} {w : World} {A : Around} {E : Value → Shared → Prop} {s : Shared} {t sl : Addr} {items : Array Value} {vs : Value} {Q : Value → Shared → Prop} (ht : IsTup s.heap t items) (hs : s.heap.IsSliceOf sl .none .none vs) (ps : IsPart vs (some (-1)))
    (h : Q (.ref s.heap.objs.size) { s with heap := s.heap.push { cls := .type "tuple", data := .seq items.toList.reverse.toArray } }) (hz : items.size ≤ sizeLine) : wpAny (model prog w) A (getItem (.ref t) (.ref sl)) Q E s := by
  have hok : sizeOk (.seq items.toList.reverse.toArray) := by
    show items.toList.reverse.toArray.size ≤ sizeLine
    rw [List.size_toArray, List.length_reverse, Array.length_toList]
    exact hz
  obtain ⟨os, hos, hcs, _⟩ := id hs
  have hT : s.TypeIs (.ref sl) "slice" := ⟨os, hos, hcs⟩
  unfold getItem
  try with_reducible refine wpAny_holding ?_
  first | refine wpAny_bind (wpAny_pure ?_) | skip
  refine wpAny_bind (wpAny_sequenceKey ht.typeIs (by decide) ?_)
  refine wpAny_bind (wpAny_callSpecial?_slot (name := Str.ofString "__getitem__") ht.typeIs PyProof.Rows.slot_tuple_getitem
    (wpAny_call_entry PyProof.Rows.slot_tuple_getitem ht.typeIs entry_tuple_getitem ?_ (args_tuple_getitem _ _)))
  show wpAny _ _ (Builtin.Tuple.tupleItemsOf (.ref t) >>= _) _ _ s
  refine wpAny_bind (PyProof.Rows.tupleItemsOf_ ht ?_)
  refine wpAny_bind (wpAny_typeOf hT ?_)
  rw [if_pos (by decide)]
  refine wpAny_bind (slice_back hs ps ?_)
  show wpAny _ _ (if (((items.size : Int) - 1) == 0 && (-1 : Int) == 1 && items.size == items.size) = true then _ else _) _ _ s
  rw [if_neg (by rw [show ((-1 : Int) == 1) = false from rfl, Bool.and_false, Bool.false_and]; exact Bool.false_ne_true), pick_back]
  first
    | exact wpAny_bind (m := Builtin.Tuple.tupleExact _) (wpAny_newObj_type (wpAny_pure ⟨_, rfl, wpAny_pure h⟩) hok)
    | exact wpAny_bind (m := Builtin.Tuple.tupleExact _) (wpAny_newObj_type (wpAny_bind (wpAny_pure (wpAny_pure ⟨_, rfl, wpAny_pure h⟩))) hok)
    | exact wpAny_bind (wpAny_bind (m := Builtin.Tuple.tupleExact _) (wpAny_newObj_type (wpAny_pure (wpAny_pure ⟨_, rfl, wpAny_pure h⟩)) hok))
    | exact wpAny_bind (wpAny_bind (m := Builtin.Tuple.tupleExact _) (wpAny_newObj_type (wpAny_pure ⟨_, rfl, wpAny_pure h⟩) hok))
def tBackT (K : PySem.W.Frag) (te : TE) : TE := fun σ H Q => te σ H fun x H1 => ∃ a xs, x = .ref a ∧ SqT K H1 a xs ∧ ∀ p, H1 p = none → Q (.ref p) (upd H1 p (.tup xs.reverse))
theorem pe_backT {X : Cx} {e : Expr} {te : TE} {k : Nat} {p1 p2 p3 pos : Pos} (he : PE X e te) : PE X (.Subscript e (.Slice none none (some (.UnaryOp .USub (.Constant (.int 1) k p1) p2)) p3) pos) (tBackT X.K te) := by
  refine ⟨fun pins s σ H Q I h => ?_⟩
  refine Subscript_ (thn (he.run pins s σ H _ I h) fun v s1 ⟨x, H1, I1, r1, a, xs, ex, hx, q⟩ => ?_)
  subst ex
  cases r1
  have hst : PO X (some (.UnaryOp .USub (.Constant (.int 1) k p1) p2)) (tPart (tUn (rU fun i => .int (-i)) (tC (.int 1)))) := po_some (pe_un un_neg pe_int)
  refine wpAny_Slice (thn (po_none.run pins s1 σ H1 (fun o H2 => o = none ∧ H2 = H1) I1 ⟨rfl, rfl⟩) fun vl s2 ⟨l, H2, I2, pl, el, e2⟩ => ?_)
  subst el e2
  refine thn (po_none.run pins s2 σ H2 (fun o H3 => o = none ∧ H3 = H2) I2 ⟨rfl, rfl⟩) fun vu s3 ⟨u, H3, I3, pu, eu, e3⟩ => ?_
  subst eu e3
  refine thn (hst.run pins s3 σ H3 (fun o H4 => o = some (-1) ∧ H4 = H3) I3 ⟨1, rfl, -1, rfl, rfl, rfl⟩) fun vs s4 ⟨o, H4, I4, ps, eo, e4⟩ => ?_
  subst eo e4
  cases pl
  cases pu
  have I5 : Inv X pins σ H4 { s4 with heap := s4.heap.push { cls := .type "slice", data := .fields #[.none, .none, vs] } } := I4.kept (t' := s4.toks) fun b ob q => Heap.get?_push_of_some _ q
  obtain ⟨its, r, ht, hz⟩ := I5.tuple hx
  have hlen := r.length
  show wpAny (model X.prog X.w) X.A (subscriptTail e (.Slice none none (some (.UnaryOp .USub (.Constant (.int 1) k p1) p2)) p3) (.ref a) (.ref s4.heap.objs.size)) (EP X pins σ Q) X.xe { s4 with heap := s4.heap.push { cls := .type "slice", data := .fields #[.none, .none, vs] } }
  refine tail_any (ops := [.ref a, .ref s4.heap.objs.size]) ht.typeIs (PyProof.Rows.slot_tuple_getitem.lookup) ?_ (by with_unfolding_all rfl)
  refine getItem_back ht (Heap.IsSliceOf.new _ .none .none vs) ps ?_ (by rw [List.size_toArray]; omega)
  refine ⟨.ref _, _, I5.laid (t' := s4.toks) (o := .tup xs.reverse) (fun b ob q => Heap.get?_push_of_some _ q) (Nat.le_refl _) ?_, rfl, q _ (I5.hok.fresh (Nat.le_refl _))⟩
  exact ⟨by rw [List.length_reverse]; exact hz, _, r.reverse, IsTup.new _ _⟩

/-! ### max of a list of pairs -/
theorem depth_pairs : ∀ ps : List (Int × Int), PyData.depthAll (ps.map fun p => PyData.tuple [.int p.1, .int p.2]) ≤ 2
  | [] => Nat.zero_le _
  | p :: ps => Nat.max_le.mpr ⟨by simp [PyData.depth, PyData.depthAll], depth_pairs ps⟩
def pairD (p : Addr × Int × Int) : PyData := .tuple [.int p.2.1, .int p.2.2]
def rMaxP (K : PySem.W.Frag) : List V → Hp → VK → Prop := fun vs H Q => ∃ (a : Addr) (ps : List (Addr × Int × Int)), vs = [V.ref a] ∧ SqL K H a (ps.map fun p => V.ref p.1) ∧ (∀ p ∈ ps, SqT K H p.1 [.int p.2.1, .int p.2.2]) ∧ ps ≠ [] ∧
  ∀ p ∈ ps, (∀ q ∈ ps, q.2.1 ≤ p.2.1) → Q (.ref p.1) H
theorem best_pair {f : Nat → Int × Int} : ∀ k j, j ≤ k → (f j).1 ≤ (f (argBest (fun i j => decide ((f j).1 < (f i).1 ∨ ((f j).1 = (f i).1 ∧ (f j).2 < (f i).2))) k)).1 ∧ argBest (fun i j => decide ((f j).1 < (f i).1 ∨ ((f j).1 = (f i).1 ∧ (f j).2 < (f i).2))) k ≤ k
  | 0, j, h => by
    rw [Nat.le_zero.mp h]
    exact ⟨Int.le_refl _, Nat.le_refl _⟩
  | k + 1, j, h => by
    have e : argBest (fun i j => decide ((f j).1 < (f i).1 ∨ ((f j).1 = (f i).1 ∧ (f j).2 < (f i).2))) (k + 1) =
      if decide ((f (argBest (fun i j => decide ((f j).1 < (f i).1 ∨ ((f j).1 = (f i).1 ∧ (f j).2 < (f i).2))) k)).1 < (f (k + 1)).1 ∨ ((f (argBest (fun i j => decide ((f j).1 < (f i).1 ∨ ((f j).1 = (f i).1 ∧ (f j).2 < (f i).2))) k)).1 = (f (k + 1)).1 ∧ (f (argBest (fun i j => decide ((f j).1 < (f i).1 ∨ ((f j).1 = (f i).1 ∧ (f j).2 < (f i).2))) k)).2 < (f (k + 1)).2)) = true then k + 1
        else argBest (fun i j => decide ((f j).1 < (f i).1 ∨ ((f j).1 = (f i).1 ∧ (f j).2 < (f i).2))) k := rfl
    have ih := fun j hj => best_pair (f := f) k j hj
    rw [e]
    generalize argBest (fun i j => decide ((f j).1 < (f i).1 ∨ ((f j).1 = (f i).1 ∧ (f j).2 < (f i).2))) k = b at ih ⊢
    split
    · rename_i hb
      rw [decide_eq_true_eq] at hb
      refine ⟨?_, Nat.le_refl _⟩
      rcases Nat.lt_or_ge k j with z | z
      · have : j = k + 1 := by omega
        subst this
        exact Int.le_refl _
      · have := (ih j z).1
        omega
    · rename_i hb
      rw [decide_eq_true_eq] at hb
      have b0 := (ih k (Nat.le_refl _)).2
      refine ⟨?_, by omega⟩
      rcases Nat.lt_or_ge k j with z | z
      · have : j = k + 1 := by omega
        subst this
        omega
      · exact (ih j z).1
theorem cr_maxP (K : PySem.W.Frag) {X : Cx} (hc : X.calm = true) (hu : X.A.units + 64 < cLine) (hK : X.K = K := by rfl) : CallR X (.builtin "max") (rMaxP K) := by
  subst hK
  intro pins s σ H vs us Q I r h
  obtain ⟨a, ps, rfl, hs, hp, hne, q⟩ := h
  obtain ⟨its, rv, hl, hz⟩ := I.list hs
  rw [Vals.ref1 r]
  have hd : ∀ ps : List (Addr × Int × Int), (∀ p ∈ ps, SqT X.K H p.1 [.int p.2.1, .int p.2.2]) → DpAll X.K H (ps.map fun p => V.ref p.1) (ps.map pairD) := by
    intro ps
    induction ps with
    | nil => exact fun _ => .nil
    | cons p ps ih => exact fun h => .cons (.tup (h p List.mem_cons_self) (.cons (.int _) (.cons (.int _) .nil))) (ih fun q hq => h q (List.mem_cons_of_mem _ hq))
  obtain ⟨as, ra⟩ := Dp.readsAll I _ _ its (hd ps hp) rv
  have hlen : its.length = ps.length := by
    have := rv.length
    rw [List.length_map] at this
    exact this.symm
  have hpos : 0 < ps.length := List.length_pos_iff.mpr hne
  have alk : PySem.W.AlikeAll (ps.map pairD) := by
    refine ⟨fun x hx y hy => ?_, fun x hx => ?_⟩
    · obtain ⟨p, _, rfl⟩ := List.mem_map.mp hx
      obtain ⟨p', _, rfl⟩ := List.mem_map.mp hy
      simp [pairD, PySem.W.alike, PySem.W.alikeAll]
    · obtain ⟨p, _, rfl⟩ := List.mem_map.mp hx
      exact fun e => nomatch e
  have hdep : PyData.depthAll (ps.map pairD) ≤ 2 := by
    have z := depth_pairs (ps.map fun p => p.2)
    rw [List.map_map] at z
    exact z
  have ra' : ReadsAll s.heap its.toArray.toList (ps.map pairD) as := ra
  refine call_max_walkH (PySem.W.iter_listW (A := X.A.in1) (I.ok.hd hc) hl.isList fun s₂ e W st hfp hw hk => ?_)
  refine ⟨_, _, _, _, _, _, _, s.heap, _, rfl, W, st, hfp, by rw [List.size_toArray, hlen]; exact hpos, hw, hk, PySem.W.cmpIn_gt (A := X.A.in1) ra' alk (by show X.A.units + 1 + _ < _; omega), fun v s' hP m => ?_⟩
  obtain ⟨h', tk, rfl, hk'⟩ := PySem.W.moved_old e rfl m
  let f : Nat → Int × Int := fun i => (ps.getD i (0, 0, 0)).2
  have ebt : argBest (fun i j => PySem.W.dataLt ((ps.map pairD).getD j .none) ((ps.map pairD).getD i .none)) (its.toArray.size - 1) = argBest (fun i j => decide ((f j).1 < (f i).1 ∨ ((f j).1 = (f i).1 ∧ (f j).2 < (f i).2))) (ps.length - 1) := by
    have key : ∀ k, k < ps.length → argBest (fun i j => PySem.W.dataLt ((ps.map pairD).getD j .none) ((ps.map pairD).getD i .none)) k = argBest (fun i j => decide ((f j).1 < (f i).1 ∨ ((f j).1 = (f i).1 ∧ (f j).2 < (f i).2))) k ∧ argBest (fun i j => decide ((f j).1 < (f i).1 ∨ ((f j).1 = (f i).1 ∧ (f j).2 < (f i).2))) k ≤ k := by
      intro k
      induction k with
      | zero => exact fun _ => ⟨rfl, Nat.le_refl _⟩
      | succ k ih =>
        intro hk1
        obtain ⟨i1, i2⟩ := ih (by omega)
        have at_ : ∀ i, i < ps.length → (ps.map pairD).getD i .none = .tuple [.int (f i).1, .int (f i).2] := fun i hi => by
          show _ = PyData.tuple [.int (ps.getD i (0, 0, 0)).2.1, .int (ps.getD i (0, 0, 0)).2.2]
          rw [List.getD_eq_getElem?_getD, List.getD_eq_getElem?_getD, List.getElem?_map, List.getElem?_eq_getElem hi]
          rfl
        refine ⟨?_, (best_pair (f := f) (k + 1) 0 (Nat.zero_le _)).2⟩
        show (if PySem.W.dataLt ((ps.map pairD).getD (argBest _ k) .none) ((ps.map pairD).getD (k + 1) .none) then k + 1 else argBest _ k) = (if decide _ = true then k + 1 else argBest _ k)
        rw [i1, at_ _ (by omega), at_ (k + 1) (by omega), PySem.W.dataLt_ii]
    rw [List.size_toArray, hlen]
    exact (key (ps.length - 1) (by omega)).1
  rw [ebt] at hP
  obtain ⟨_, hb⟩ := best_pair (f := f) (ps.length - 1) 0 (Nat.zero_le _)
  have best := fun j hj => (best_pair (f := f) (ps.length - 1) j hj).1
  generalize argBest (fun i j => decide ((f j).1 < (f i).1 ∨ ((f j).1 = (f i).1 ∧ (f j).2 < (f i).2))) (ps.length - 1) = b at hP hb best
  have hbl : b < ps.length := by omega
  have fb : f b = ps[b].2 := by
    show (ps.getD b (0, 0, 0)).2 = _
    rw [List.getD_eq_getElem?_getD, List.getElem?_eq_getElem hbl]
    rfl
  have ev : v = .ref ps[b].1 := by
    have hx : (ps.map fun p => V.ref p.1)[b]? = some (.ref ps[b].1) := by
      rw [List.getElem?_map, List.getElem?_eq_getElem hbl]
      rfl
    obtain ⟨u, hu, ru⟩ := rv.get hx
    have hP' : its[b]? = some v := by simpa using hP
    rw [hu] at hP'
    rw [← Option.some.inj hP']
    exact ru
  subst ev
  refine ⟨.ref ps[b].1, H, I.kept (t' := tk) hk', rfl, q ps[b] (List.getElem_mem hbl) fun z hz1 => ?_⟩
  obtain ⟨j, hj, e⟩ := List.mem_iff_getElem.mp hz1
  have hle := best j (by omega)
  have fj : f j = ps[j].2 := by
    show (ps.getD j (0, 0, 0)).2 = _
    rw [List.getD_eq_getElem?_getD, List.getElem?_eq_getElem hj]
    rfl
  rw [fj, fb, e] at hle
  exact hle

end Lk
/-! set of a list of ints -/
namespace Lk
open PySem PySem.Spec PyProof.Rows L2 C8
/-! ### set(xs), xs a list of ints -/
section
variable {P : Program} {w : World} {A : Around} {E : Value → Shared → Prop} {s : Shared}
theorem call_setL {l : Addr} {items : Array Value} (ns : List Int) {Q : Value → Shared → Prop} (hh : A.handled = none) (hl : s.heap.IsList l items) (hit : IntsAre items.toList ns) (hb : ns.length + 1 < scanBound)
    (hQ : ∀ (h' : Heap) (tk c : Nat), SetR w h' s.heap.objs.size (fun j => decide (j ∈ ns)) c → c ≤ ns.length → (∀ b o, s.heap.get? b = some o → h'.get? b = some o) → Q (.ref s.heap.objs.size) { s with heap := h', toks := tk }) :
    wpAny (model P w) A (call (.type "set") [.ref l]) Q E s := by
  have sz : items.size = ns.length := by
    rw [← Array.length_toList]
    exact hit.length
  obtain ⟨c, tl, mro1⟩ := F.called_set.mro
  have made1 := F.called_set.made
  have sub1 := F.called_set.sub
  refine wpAny_call (codeAny_of_tree ?_)
  show wpAny _ _ (callAny (.type "set") _) _ _ _
  refine wpAny_pure ⟨Code.quiet_builtin _ (by decide +kernel), codeAny_builtin F.entry_type_call ?_⟩
  rw [Around.under_plain (weight_type_call_type "set" [.ref l] []) rfl]
  have q1 := F.called_set.notType
  have q2 := F.called_set.canCreate
  have q3 := F.typeCall_set_1 (.ref l)
  repeat (any_goals (first | assumption | wp_step))

  refine codeAny_mono (code_set_led1 (w := w) (s := s) (.ref l) (E := E) (Q₁ := fun x y => x = .ref s.heap.objs.size ∧ y = { s with heap := s.heap.push { cls := .type "set", dict := none, data := .set #[] 0 (.fresh 0 0 (!w.params.followText "set-order")) } }) ⟨rfl, rfl⟩) fun r t hr => ?_
  cases r with
  | error e => exact hr
  | ok fl =>
    cases fl with
    | ret x =>
      obtain ⟨rfl, rfl⟩ := hr
      have new1 : (s.heap.push { cls := .type "set", dict := none, data := .set #[] 0 (.fresh 0 0 (!w.params.followText "set-order")) }).get? s.heap.objs.size = some { cls := .type "set", dict := none, data := .set #[] 0 (.fresh 0 0 (!w.params.followText "set-order")) } := Heap.get?_push_size _ rfl
      have ty1 : Shared.TypeIs { s with heap := s.heap.push { cls := .type "set", dict := none, data := .set #[] 0 (.fresh 0 0 (!w.params.followText "set-order")) } } (.ref s.heap.objs.size) "set" := ⟨_, new1, rfl⟩
      have q4 := F.called_set.init.lookup
      have q5 := F.called_set.init.bind (.ref s.heap.objs.size)
      repeat (any_goals (first | assumption | wp_step))

      refine codeAny_mono (codeAny_call_builtin (R := wants (fun r t2 => r = .none ∧ ∃ h' tk c, t2 = { s with heap := h', toks := tk } ∧ SetR w h' s.heap.objs.size (fun j => decide (j ∈ ns)) c ∧ c ≤ ns.length ∧
          (∀ b o, s.heap.get? b = some o → h'.get? b = some o)) E) F.called_set.init.plain F.entry_set_init (check_set_init_1 ty1 ?_)) fun r2 t2 hr2 => ?_
      · obtain ⟨⟨ocls, odict, odata, oslots⟩, hol, hcl, nl, hdl⟩ := hl
        simp only at hcl hdl
        subst hcl hdl
        have hol2 : (s.heap.push { cls := .type "set", dict := none, data := .set #[] 0 (.fresh 0 0 (!w.params.followText "set-order")) }).get? l = some { cls := .type "list", dict := odict, data := .seq items nl, slots := oslots } := Heap.get?_push_of_some _ hol
        have q6 := F.sub_list_set
        have q7 := F.sub_list_frozenset
        have q8 : (Value.type "list" == Value.type "dict") = false := by decide
        have is2 : (s.heap.push { cls := .type "set", dict := none, data := .set #[] 0 (.fresh 0 0 (!w.params.followText "set-order")) }).IsList l items := ⟨_, hol2, rfl, nl, rfl⟩
        unfold Builtin.«set.__init__» noKeywords Builtin.Frozenset.updateFrom
        generalize ePI : pyIter = PI
        wp_walk
        subst ePI

        refine wpAny_pyIter_list is2 ?_
        refine wpAny_bind (wpAny_runValue ?_)
        have llt : l < s.heap.objs.size := Heap.lt_size hol
        have hh3 : A.in1.in1.in1.handled = none := by simp [hh]
        have lne : l ≠ (s.heap.push { cls := .type "set", dict := none, data := .set #[] 0 (.fresh 0 0 (!w.params.followText "set-order")) }).objs.size := by
          rw [Heap.size_push]
          exact Nat.ne_of_lt (Nat.lt_succ_of_lt llt)
        have Sfp : s.heap.objs.size ∉ [(s.heap.push { cls := .type "set", dict := none, data := .set #[] 0 (.fresh 0 0 (!w.params.followText "set-order")) }).objs.size, l] := by
          rw [Heap.size_push]
          intro z
          rcases List.mem_cons.mp z with z | z
          · exact Nat.ne_of_lt (Nat.lt_succ_self _) z
          · exact Nat.ne_of_gt llt (List.mem_singleton.mp z)
        have val1 : ∀ (i : Nat) (v : Value), items[i]? = some v → ∃ k t, ns[i]? = some k ∧ v = .int k t := fun i v hv => by
          have hi : i < ns.length := by
            rw [← sz]
            exact (Array.getElem?_eq_some_iff.mp hv).1
          obtain ⟨t, e⟩ := PyProof.Rows.IntsAre.int_at hit i v (by rw [Array.getElem?_toList]; exact hv)
          refine ⟨ns[i], t, List.getElem?_eq_getElem hi, ?_⟩
          rw [e, List.getD_eq_getElem?_getD, List.getElem?_eq_getElem hi]
          rfl
        refine set_update_ints ((Walks.list hh3 _ l lne items).toS) s.heap.objs.size Sfp ns sz hb val1 (items.size - 0) 0 _ (by omega) (Nat.zero_le _)
          ⟨⟨_, Heap.get?_push_size _ rfl, rfl, rfl⟩, is2.push _⟩ ⟨0, Nat.le_refl 0, setR_new_at (Heap.get?_push_of_some _ new1)⟩ fun s' c' hm hc' hS' => ?_
        obtain ⟨h', g2, d', tk', os'⟩ := s'
        obtain rfl : g2 = s.gens := hm.gens
        obtain rfl : d' = s.drawn := hm.drawn
        obtain rfl : os' = s.os := hm.os
        refine wpAny_pure ?_
        show wpAny _ _ (ret Value.none) _ _ _
        rw [sz] at hc'
        refine wpAny_pure ⟨rfl, h', tk', c', rfl, hS', hc', fun b o e => ?_⟩
        have b0 : b < s.heap.objs.size := Heap.lt_size e
        refine hm.heap b o (fun z => ?_) (Heap.get?_push_of_some _ (Heap.get?_push_of_some _ e))
        rcases List.mem_cons.mp z with z | z
        · exact Nat.ne_of_lt b0 z
        · have z := List.mem_singleton.mp z
          rw [Heap.size_push] at z
          exact Nat.ne_of_lt (Nat.lt_succ_of_lt b0) z
      · cases r2 with
        | error e => exact hr2
        | ok fl2 =>
          cases fl2 with
          | ret r =>
            obtain ⟨rfl, h', tk, c', rfl, hS', hc', hk'⟩ := hr2
            repeat (any_goals (first | assumption | wp_step))
            exact hQ _ _ _ hS' hc' hk'
          | _ => exact hr2.elim
    | _ => exact hr.elim
end
def rSetL (K : PySem.W.Frag) (w : World) : List V → Hp → VK → Prop := fun vs H Q => ∃ (l : Addr) (ns : List Int), vs = [V.ref l] ∧ SqL K H l (ns.map V.int) ∧ ns.length ≤ 1000 ∧
  ∀ a c, H a = none → c ≤ ns.length → Q (.ref a) (upd H a (SetO w a (fun j => decide (j ∈ ns)) c))
theorem cr_setL {X : Cx} (hc : X.calm = true) : CallR X (.type "set") (rSetL X.K X.w) := by
  intro pins s σ H vs us Q I r h
  obtain ⟨l, ns, rfl, hs, hn, q⟩ := h
  obtain ⟨its, rv, hl, hz⟩ := I.list hs
  rw [Vals.ref1 r]
  have hf : H s.heap.objs.size = none := I.hok.fresh (Nat.le_refl _)
  refine call_setL (P := X.prog) (w := X.w) ns (I.ok.hd hc) hl.isList (by simpa using rv.ints) (by unfold scanBound; omega) fun h' tk c R hcn k => ?_
  exact ⟨.ref s.heap.objs.size, _, I.laid (t' := tk) k (Nat.le_refl _) (setO_new R), rfl, q _ c hf hcn⟩

end Lk
/-! sorted of a set of rows of any lengths -/
namespace Lk
open PySem PySem.Spec PyProof.Rows L2 C8
/-! ### sorted(set of rows), rows of any lengths -/
theorem perm_lift {α β : Type} {f : α → β} {vs ws : List β} (h : vs.Perm ws) : ∀ L : List α, ws = L.map f → ∃ L1 : List α, L1.Perm L ∧ vs = L1.map f := by
  induction h with
  | nil =>
    intro L e
    exact ⟨L, List.Perm.refl _, e⟩
  | cons x h ih =>
    intro L e
    cases L with
    | nil => exact nomatch e
    | cons y L =>
      obtain ⟨e1, e2⟩ := List.cons.inj e
      obtain ⟨L1, p, q⟩ := ih L e2
      exact ⟨y :: L1, p.cons y, by rw [q, e1]; rfl⟩
  | swap x y l =>
    intro L e
    match L, e with
    | a :: b :: L, e =>
      obtain ⟨e1, e2⟩ := List.cons.inj e
      obtain ⟨e2, e3⟩ := List.cons.inj e2
      exact ⟨b :: a :: L, List.Perm.swap _ _ _, by rw [e1, e2, e3]; rfl⟩
  | trans h1 h2 ih1 ih2 =>
    intro L e
    obtain ⟨L2, p2, e2⟩ := ih2 L e
    obtain ⟨L1, p1, e1⟩ := ih1 L2 e2
    exact ⟨L1, p1.trans p2, e1⟩
def rowD (p : Addr × List Int) : PyData := .tuple (p.2.map .int)
theorem rowD_lt (p q : Addr × List Int) : PySem.W.dataLt (rowD p) (rowD q) = decide (p.2 < q.2) := by
  unfold rowD
  rw [PySem.W.dataLt_tuple]
  exact PySem.W.dataLt_ints p.2 q.2
theorem rowD_le (p q : Addr × List Int) : PySem.W.dataLe false rowD p q = decide (¬ q.2 < p.2) := by
  show (!PySem.W.dataLt (rowD q) (rowD p)) = _
  rw [rowD_lt]
  by_cases h : q.2 < p.2 <;> simp [h]
theorem each_refs {R : Value → Addr × List Int → Prop} : ∀ {vs : List Value} {L : List (Addr × List Int)}, PySem.W.EachIs R vs L → (∀ v p, R v p → v = .ref p.1) → vs = L.map fun p => Value.ref p.1
  | _, _, .nil, _ => rfl
  | _, _, .cons r t, h => by
    rw [h _ _ r, each_refs t h]
    rfl
theorem refs_each {R : Value → Addr × List Int → Prop} : ∀ {L : List (Addr × List Int)}, (∀ p ∈ L, R (.ref p.1) p) → PySem.W.EachIs R (L.map fun p => Value.ref p.1) L
  | [], _ => .nil
  | p :: L, h => .cons (h p List.mem_cons_self) (refs_each fun q hq => h q (List.mem_cons_of_mem _ hq))

theorem reads_row {h : Heap} : ∀ {us : List Value} {ns : List Int}, IntsAre us ns → ReadsAll h us (ns.map .int) []
  | _, _, .nil => .nil
  | _, _, .cons p t r => .cons (.int p t) (reads_row r)
theorem sorted_rows {P : Program} {w : World} {A : Around} {E : Value → Shared → Prop} {s : Shared} {a : Addr} {L : List (Addr × List Int)} {es : Array (Int × Value)} {ep : Nat} {t : SetTable} {Q : Value → Shared → Prop} (R : SetTR P w s.heap a L es ep t) (hh : A.handled = none) (hu : A.units + 64 < cLine)
    (hne : ∀ p ∈ L, p.2 ≠ [])
    (hQ : ∀ s' p (out : Array Value) (c : Nat) (L' : List (Addr × List Int)), (∀ b o, s.heap.get? b = some o → s'.heap.get? b = some o) → s'.gens = s.gens → s'.os = s.os → s.heap.objs.size ≤ p →
      s'.heap.get? p = some (seqObj "list" out c) → out.toList = L'.map (fun q => Value.ref q.1) → L'.Perm L → L'.Pairwise (fun q r => ¬ r.2 < q.2) → Q (.ref p) s') :
    wpAny (model P w) A (call (.builtin "sorted") [.ref a]) Q E s := by
  obtain ⟨o, ho, hex, hd⟩ := R.ob
  have hsz := R.size
  have hfew := R.few
  refine Calls.call_function_entry kind_sorted plain_sorted entry_sorted (args_sorted1 _) ?_
  unfold Builtin.«sorted»
  refine wpAny_bind (m := checkCount "sorted" 1 1 _) (wpAny_pure ?_)
  refine wpAny_bind (collect_set (A := A.in1) hh ⟨o, ho, hex.1, hd⟩ R.fits (by unfold scanBound; omega) R.tab.ris R.led fun s1 vs k1 hz g1 o1 pm => ?_)
  have evs : es.toList.map (·.2) = L.map fun q => Value.ref q.1 := by
    rw [R.rows]
    unfold rowsOf
    rw [List.map_map]
    rfl
  rw [evs] at pm
  obtain ⟨L1, p1, rfl⟩ := perm_lift pm L rfl
  have l1 : L1.length < 64 := by
    rw [p1.length_eq]
    exact hfew
  refine wpAny_bind (wpAny_newList ?_ (by rw [List.length_map, sizeLine_eq]; omega))
  have new1 : (s1.heap.push (seqObj "list" (L1.map fun q => Value.ref q.1).toArray 0)).get? s1.heap.objs.size = some (seqObj "list" (L1.map fun q => Value.ref q.1).toArray 0) := Heap.get?_push_size _ rfl
  have rd : ∀ p ∈ L1, ∃ as, Reads (s1.heap.push (seqObj "list" (L1.map fun q => Value.ref q.1).toArray 0)) (.ref p.1) (rowD p) as ∧ s1.heap.objs.size ∉ as := fun p hp => by
    obtain ⟨b, xs, e, ⟨ob, hob, hc, n, hdt⟩, hi⟩ := tupInts_of (P := P) (w := w) (isT_keep (R.tup p (p1.mem_iff.mp hp)) fun b u e => Heap.get?_push_of_some (seqObj "list" (L1.map fun q => Value.ref q.1).toArray 0) (k1 b u e))
    cases e
    exact ⟨_, .tuple hob hc hdt (reads_row hi), by simp⟩
  have alk : PySem.W.AllAlike (L1.map rowD) := by
    intro d hd d' hd'
    obtain ⟨p, _, rfl⟩ := List.mem_map.mp hd
    obtain ⟨p', _, rfl⟩ := List.mem_map.mp hd'
    show PySem.W.alike (.tuple (p.2.map .int)) (.tuple (p'.2.map .int)) = true
    rw [PySem.W.alike]
    exact PySem.W.alike_ints p.2 p'.2
  have srt : PySem.W.Sortable (L1.map rowD) := .inl fun d hd => by
    obtain ⟨p, hp, rfl⟩ := List.mem_map.mp hd
    cases e : p.2 with
    | nil => exact absurd e (hne p (p1.mem_iff.mp hp))
    | cons x r => exact ⟨_, _, by unfold rowD; rw [e]; rfl⟩
  have dep : ∀ p : Addr × List Int, (rowD p).depth ≤ 1 := fun p => by
    show (PyData.tuple (p.2.map .int)).depth ≤ 1
    rw [PyData.depth, PySem.W.depth_ints]
    exact Nat.le_refl _
  refine wpAny_bind (wpAny_holding (PySem.W.list_sort_data (s := { s1 with heap := s1.heap.push (seqObj "list" (L1.map fun q => Value.ref q.1).toArray 0) }) (R := fun v p => v = Value.ref p.1) (enc := rowD) new1 (refs_each fun p _ => rfl) (refs_each fun p hp => rd p hp) alk srt (by rw [sizeLine_eq]; omega)
    (fun p _ => by have := dep p; show A.units + 1 + 1 + _ < _; omega) fun out hlen he => ?_))
  have eo := each_refs he fun _ _ z => z
  obtain ⟨c, hc⟩ := sortedHeap_at (vs := L1.map fun q => Value.ref q.1) (out := out.toArray) new1
  have pw : (L1.mergeSort (PySem.W.dataLe false rowD)).Pairwise (fun q r => ¬ r.2 < q.2) := by
    have z := List.pairwise_mergeSort (le := PySem.W.dataLe false rowD) (fun x y z hxy hyz => by
      rw [rowD_le, decide_eq_true_eq] at *
      exact List.le_trans (l₁ := x.2) (l₂ := y.2) (l₃ := z.2) hxy hyz) (fun x y => by
      rw [rowD_le, rowD_le, Bool.or_eq_true, decide_eq_true_eq, decide_eq_true_eq]
      exact List.le_total x.2 y.2) L1
    refine z.imp fun {q r} h => ?_
    rw [rowD_le, decide_eq_true_eq] at h
    exact h
  refine wpAny_pure ⟨_, rfl, hQ _ s1.heap.objs.size out.toArray c _ (fun b u e => ?_) g1 o1 hz hc (by rw [List.toList_toArray]; exact eo) ((List.mergeSort_perm _ _).trans p1) pw⟩
  have q := k1 b u e
  have hlt := Heap.lt_size q
  show (sortedHeap (s1.heap.push (seqObj "list" (L1.map fun q => Value.ref q.1).toArray 0)) s1.heap.objs.size (L1.map fun q => Value.ref q.1) out.toArray).get? b = some u
  rw [sortedHeap_old (Nat.ne_of_lt hlt) (by rw [size_push']; exact Nat.lt_succ_of_lt hlt)]
  exact Heap.get?_push_of_some _ q
/-- sorted(set), its rows not empty -/
def rSortR (K : PySem.W.Frag) (P : Program) (w : World) : List V → Hp → VK → Prop := fun vs H Q => ∃ (a : Addr) (L : List (Addr × List Int)), vs = [V.ref a] ∧ H a = some (SetTO P w a L) ∧ (∀ p ∈ L, SqT K H p.1 (p.2.map V.int)) ∧ (∀ p ∈ L, p.2 ≠ []) ∧
  ∀ (L' : List (Addr × List Int)) (p : Addr), L'.Perm L → (L'.map (·.2)).Nodup → L'.length < 64 → L'.Pairwise (fun q r => ¬ r.2 < q.2) → H p = none → Q (.ref p) (upd H p (.lst (L'.map fun q => V.ref q.1)))
theorem cr_sortR {X : Cx} (hc : X.calm = true) (hu : X.A.units + 64 < cLine) : CallR X (.builtin "sorted") (rSortR X.K X.prog X.w) := by
  intro pins s σ H vs us Q I r h
  obtain ⟨a, L, rfl, ha, hk, hne, q⟩ := h
  have R0 : SetT0 X.prog X.w s.heap a L := (I.hok a _ ha).1
  obtain ⟨es, ep, t, R⟩ := R0.full fun p hp => I.isT (hk p hp)
  rw [Vals.ref1 r]
  refine sorted_rows R (I.ok.hd hc) hu hne fun s' p out c L' k g o hp hg hout pm pw => ?_
  have few : L'.length < 64 := by
    rw [pm.length_eq]
    exact R.few
  have hlen : (L'.map fun q => V.ref q.1).length ≤ sizeLine := by
    rw [List.length_map]
    exact szl' (by omega)
  have hn : H p = none := I.hok.fresh hp
  have hv : Vals (L'.map fun q => V.ref q.1) out.toList := by
    rw [hout]
    exact vals_of_refs L'
  have J : Inv X pins σ (upd H p (.lst (L'.map fun q => V.ref q.1))) { s with heap := s'.heap, gens := s'.gens, drawn := s'.drawn, toks := s'.toks } :=
    I.call (ch := []) (Un.laid k hp hn) (I.hok.laid k hp ⟨hlen, out.toList, c, hv, hg⟩) (by rw [g]; exact I.bare) (fun _ z => nomatch z)
  obtain ⟨h2, g2, d2, t2, o2⟩ := s'
  obtain rfl : o2 = s.os := o
  exact ⟨.ref p, _, J, rfl, q L' p pm ((pm.map (·.2)).nodup_iff.mpr R.nd) few pw hn⟩
end Lk
/-! The defs of books. -/
namespace Lk
open PySem PySem.Spec PyProof.Rows L2 C8
/-- a tuple of rows stands at t -/
structure Rws (H : Hp) (t : Addr) (ks : List (Addr × List Nat)) : Prop where
  top : H t = some (.tup (ks.map fun p => V.ref p.1))
  each : ∀ p ∈ ks, H p.1 = some (.tup (nums p.2))
theorem Rws.same {H H' : Hp} {t : Addr} {ks : List (Addr × List Nat)} (h : Rws H t ks) (s : Same H H') : Rws H' t ks := ⟨s _ _ h.top, fun p hp => s _ _ (h.each p hp)⟩
abbrev rows (ks : List (Addr × List Nat)) : List (List Nat) := ks.map fun p => p.2
theorem Cr.len {n : Nat} {ns : List Nat} (h : Cr n ns) : ns.length ≤ n := by
  have q := nodup_le ns (List.range n) h.nodup fun x hx => List.mem_range.mpr (h.1 x hx)
  rw [List.length_range] at q
  exact q
theorem lexLt_nat : ∀ a b : List Nat, HT.lexLt (a.map fun (k : Nat) => (k : Int)) (b.map fun (k : Nat) => (k : Int)) = lex a b
  | [], [] => rfl
  | [], _ :: _ => rfl
  | _ :: _, [] => rfl
  | x :: xs, y :: ys => by
    have ih := lexLt_nat xs ys
    show (if (x : Int) = (y : Int) then HT.lexLt (xs.map fun (k : Nat) => (k : Int)) (ys.map fun (k : Nat) => (k : Int)) else decide ((x : Int) < (y : Int))) = if x = y then lex xs ys else decide (x < y)
    rw [ih]
    by_cases e : x = y
    · rw [if_pos e, if_pos (show (x : Int) = (y : Int) by rw [e])]
    · rw [if_neg e, if_neg (show ¬ (x : Int) = (y : Int) from fun z => e (Int.ofNat.inj z))]
      exact decide_eq_decide.mpr Int.ofNat_lt
theorem ks_at {ks : List (Addr × List Nat)} {i : Nat} {x : V} (h : (ks.map fun p => V.ref p.1)[i]? = some x) : ∃ p, ks[i]? = some p ∧ x = .ref p.1 := by
  rw [List.getElem?_map] at h
  obtain ⟨p, hp, e⟩ := Option.map_eq_some_iff.mp h
  exact ⟨p, hp, e.symm⟩
theorem at_ks {ks : List (Addr × List Nat)} {i : Nat} {p : Addr × List Nat} (h : ks[i]? = some p) : (ks.map fun p => V.ref p.1)[i]? = some (V.ref p.1) := by
  rw [List.getElem?_map, h]
  rfl
theorem pw_at {α : Type} {R : α → α → Prop} {l : List α} (h : l.Pairwise R) {i j : Nat} {a b : α} (hij : i < j) (ha : l[i]? = some a) (hb : l[j]? = some b) : R a b := by
  obtain ⟨h1, rfl⟩ := List.getElem?_eq_some_iff.mp ha
  obtain ⟨h2, rfl⟩ := List.getElem?_eq_some_iff.mp hb
  exact List.pairwise_iff_getElem.mp h i j h1 h2 hij
theorem take_get {α : Type} {l : List α} {i j : Nat} {a : α} (h : (l.take i)[j]? = some a) : j < i ∧ l[j]? = some a := by
  rw [List.getElem?_take] at h
  split at h
  · exact ⟨by assumption, h⟩
  · cases h
/-- a test whose second part says no in any case -/
theorem way2 {c : Bool} {A B Kf : Prop} (hB : Kf → B) (hA : c = true → Kf → A) (k : Kf) : if c = true then A else B := by
  cases c with
  | true => exact iteT (hA rfl k)
  | false => exact iteF (hB k)
theorem iteF' {b : Bool} {A B : Prop} (e : b = false) (h : B) : if b = true then A else B := by
  rw [e]
  exact iteF h
theorem iteT' {b : Bool} {A B : Prop} (e : b = true) (h : A) : if b = true then A else B := by
  rw [e]
  exact iteT h
section
variable {P : Program} {w : World} {K : PySem.W.Frag} {mg : Str → Option Value} {base : Heap}
def spFirst : Sp := fun vs H Q _ => ∃ (n : Nat) (t : Addr) (ks : List (Addr × List Nat)), vs = [.int (n : Int), .ref t] ∧ Rws H t ks ∧ Lots n (rows ks) ∧ n ≤ 12 ∧ ks.length ≤ 1000 ∧ ∀ H', Same H H' → Q .non H'
abbrev nFirst : List Str := ["people", "lots", "found", "at", "lot", "bits", "other"]
theorem ok_first (B : Bi mg) (h : Has K mg "first_wrong_lot" (topS 25) ["people", "lots"]) (c1 : Cal P w K mg base 5 "is_lot" spLot []) (c2 : Cal P w K mg base 1 "bits_of" spBitsOf []) (c3 : Cal P w K mg base 1 "holds" spHolds []) :
    Cal P w K mg base 6 "first_wrong_lot" spFirst [] := by
  refine cal_of (N := nFirst) h (by decide +kernel) (fun vs H Q E h => ?_) (fun nd f cdv A outer s H vs Q E hr h => ?_)
  · obtain ⟨n, t, ks, rfl, _⟩ := h
    rfl
  · obtain ⟨n, t, ks, rfl, ht, hL, hn, hz, q⟩ := h
    have hu := hr.units0
    refine ⟨_, pss_cons (ps_set (i := 2) nd rfl (Or.inl rfl) (pe_lst pa_nil))
      (pss_cons (ps_for PassesOwn.never rfl (pi_enumT K (by rfl) B.enumerate (pa_cons (pv 1) pa_nil)) (pg_tup rfl (pgs_cons (pg_name (i := 3) nd rfl (Or.inl rfl)) (pgs_cons (pg_name (i := 4) nd rfl (Or.inl rfl)) pgs_nil)))
        (pss_cons (ps_if (PW.pt (pw_or (pt_not (pt_val (pe_c c1 hr (by decide) (by rfl) (pa_cons (pv 0) (pa_cons (pv 4) pa_nil)))))
            (pw_or1 (PW.pt (pw_and (pt_cmpR op_gt (pv 3) pe_int (nomark _)) (pw_and1 (pt_not (pt_cmpR (op_ltT hu) (pe_ix ix_tup (pv 1) (pe_op op_sub (pv 3) pe_int) (fun _ _ => rfl)) (pv 4) (nomark _)))))))))
          (pss_one (ps_ret (pv 3))) pss_nil)
        (pss_cons (ps_set (i := 5) nd rfl (Or.inr rfl) (pe_c c2 hr (by decide) (by rfl) (pa_cons (pv 4) pa_nil)))
        (pss_cons (ps_if (pt_val (pe_callB (cr_any rfl) (by rfl) B.any (by decide +kernel) (pa_cons (pe_lc (own := [("other", 6)]) (g := gName 6) (tt := tYes) rfl nd (piL K (pv 2))
            (blkOk_by (own := [("other", 6)]) (N := nFirst) (sc := fnScope (topS 25)) (by decide +kernel)) (fun _ _ _ _ _ => pg_name (i := 6) nd rfl (Or.inl rfl)) (fun _ _ _ _ _ => pts_nil)
            (fun _ _ _ _ _ => pe_or (pe_c c3 hr (by decide) (by rfl) (pa_cons (pv 5) (pa_cons (pv 6) pa_nil))) (pe_one (pe_c c3 hr (by decide) (by rfl) (pa_cons (pv 6) (pa_cons (pv 5) pa_nil)))))) pa_nil)))
          (pss_one (ps_ret (pv 3))) pss_nil)
        (pss_one (ps_expr (pe_bm PySem.F.plainAttrs_list PySem.F.slot_list_append PySem.F.type_list_append mt_append (pv 2) (pa_cons (pv 5) pa_nil))))))))
      (pss_one (ps_ret pe_non))), ?_⟩
    -- found = []
    refine ⟨Nat.zero_le _, fun F hF => ?_⟩
    have a0 : Acc H F [] (upd H F (.lst [])) := acc_nil hF
    -- for at, lot in enumerate(lots)
    refine ⟨_, rfl, t, _, rfl, SqT.of (a0.sm _ _ ht.top), ?_⟩
    refine for_it (walk_enumT (xs := ks.map fun p => V.ref p.1)) (fun i σ H' => ∃ v3 v4 v5 v6, σ = [some (.int (n : Int)), some (.ref t), some (.ref F), v3, v4, v5, v6] ∧ Acc H F ((ks.take i).map fun p => V.int ((bn p.2 : Nat) : Int)) H')
      ⟨_, _, _, _, rfl, a0⟩ (fun i σ H' _ hp => ?_) (fun i x σ H0 H1 hi hp hy => ?_) (fun σ H1 hp => ?_)
    · obtain ⟨_, _, _, _, _, a⟩ := hp
      exact SqT.of (a.sm _ _ ht.top)
    · obtain ⟨v3, v4, v5, v6, rfl, a⟩ := hp
      obtain ⟨T, x1, x2, rfl, hT, rfl, e1, e2⟩ := hy
      cases e1
      obtain ⟨p, hp, rfl⟩ := ks_at e2
      have hpm : p ∈ ks := List.mem_of_getElem? hp
      obtain ⟨hc, h2⟩ := hL.cr p.2 (List.mem_map.mpr ⟨p, hpm, rfl⟩)
      have hlen : p.2.length ≤ 12 := Nat.le_trans hc.len hn
      have a1 := a.more (same_new (o := .tup [.int (i : Nat), .ref p.1]) hT)
      have tt1 := ht.same a1.sm
      refine ⟨T, [.int (i : Nat), .ref p.1], rfl, SqT.of upd_same, rfl, _, [.ref p.1], rfl, _, [], rfl, rfl, ?_⟩
      -- is_lot(people, lot)
      refine ⟨_, rfl, _, rfl, n, p.1, p.2, rfl, tt1.each p hpm, hc, by omega, fun H2 s2 => ⟨_, rfl, ?_⟩⟩
      rw [decide_eq_true (show 1 < p.2.length by omega)]
      refine iteF ⟨_, rfl, _, _, rfl, rfl, _, rfl, ?_⟩
      have a2 := a1.more s2
      have tt2 := ht.same a2.sm
      refine way2 id (fun hi0 k => ?_) ?_
      · have hi0 : 0 < i := by
          have z := of_decide_eq_true hi0
          omega
        obtain ⟨p0, hp0⟩ : ∃ p0, ks[i - 1]? = some p0 := ⟨_, List.getElem?_eq_getElem (by
          have := (List.getElem?_eq_some_iff.mp hp).1
          omega)⟩
        refine ⟨_, rfl, _, rfl, _, _, rfl, rfl, t, _, _, _, rfl, rfl, SqT.of tt2.top, at_of (j := i - 1) (by omega) (at_ks hp0), _, rfl, p0.1, p.1, p0.2.map fun (k : Nat) => (k : Int), p.2.map fun (k : Nat) => (k : Int), rfl, rfl, ?_, ?_, ?_⟩
        · rw [← nums_map]
          exact SqT.of (tt2.each p0 (List.mem_of_getElem? hp0))
        · rw [← nums_map]
          exact SqT.of (tt2.each p hpm)
        · have z : lex p0.2 p.2 = true := pw_at hL.up (i := i - 1) (j := i) (by omega) (by rw [List.getElem?_map, hp0]; rfl) (by rw [List.getElem?_map, hp]; rfl)
          rw [lexLt_nat, z]
          exact ⟨_, rfl, k⟩
      refine iteF ?_
      -- bits = bits_of(lot)
      refine ⟨_, rfl, p.1, p.2, rfl, tt2.each p hpm, by omega, fun k hk => Nat.le_trans (Nat.le_of_lt (hc.1 k hk)) (by omega), fun H3 s3 => ?_⟩
      have a3 := a2.more s3
      -- any([..])
      refine ⟨_, rfl, F, rfl, ⟨_, SqL.of a3.at_⟩, fun D hD => ?_⟩
      refine lc_it (walk_list (xs := (ks.take i).map fun p => V.int ((bn p.2 : Nat) : Int))) (fun j => Acc H3 D ((ks.take i).map (fun _ => V.bl false) |>.take j)) (acc_nil hD) (fun _ _ _ b => SqL.of (b.sm _ _ a3.at_)) (fun j x H4 H5 hj b hy => ?_) (fun H4 b => ?_)
      · obtain ⟨rfl, hx⟩ := hy
        rw [List.getElem?_map] at hx
        obtain ⟨p0, hp0, rfl⟩ := Option.map_eq_some_iff.mp hx
        obtain ⟨hji, hp1⟩ := take_get hp0
        have an := pw_at hL.anti (i := j) (j := i) hji (by rw [List.getElem?_map, hp1]; rfl) (by rw [List.getElem?_map, hp]; rfl)
        refine ⟨rfl, _, rfl, _, rfl, bn p.2, bn p0.2, rfl, _, rfl, ?_⟩
        rw [decide_eq_false an.2]
        refine iteF ⟨_, rfl, _, rfl, bn p0.2, bn p.2, rfl, ?_⟩
        rw [decide_eq_false an.1]
        refine b.put hD ?_ ?_
        · rw [List.length_take, List.length_map, List.length_take]
          omega
        · rw [List.take_add_one, List.getElem?_map, hp0]
          rfl
      · refine ⟨D, ((ks.take i).map fun _ => false), rfl, SqL.of ?_, ?_⟩
        · rw [b.at_, List.length_map, List.map_map]
          have : ((ks.take i).map (fun _ => V.bl false)).take (ks.take i).length = (ks.take i).map (fun _ => V.bl false) := List.take_of_length_le (by rw [List.length_map]; exact Nat.le_refl _)
          rw [this]
          rfl
        · have z : ((ks.take i).map fun _ => false).any id = false := by
            rw [List.any_map, List.any_eq_false]
            exact fun _ _ => Bool.false_ne_true
          rw [z]
          refine ⟨_, rfl, iteF ?_⟩
          -- found.append(bits)
          have a4 := a3.more b.sm
          refine ⟨_, rfl, .inl ⟨rfl, _, SqL.of a4.at_⟩, _, rfl, F, _, _, rfl, rfl, a4.at_, ?_, ?_⟩
          · rw [List.length_map, List.length_take]
            exact szl (by omega)
          · refine ⟨_, _, _, _, rfl, fun c o e => ?_, ?_⟩
            · rw [upd_ne (ne_of_none e hF)]
              exact a4.sm _ _ e
            · rw [upd_same, take_more _ hp]
    · obtain ⟨_, _, _, _, rfl, a⟩ := hp
      exact q _ a.sm
end
end Lk
/-! The class Book. -/
namespace Lk
open PySem PySem.Spec PyProof.Rows L2 C8
def HasM (K : PySem.W.Frag) (C : Addr) (m qual : Str) (st : Stmt) (ps : List Str) : Prop := ∃ (f : Addr) (fd : FuncData), Meth K C m f ∧ C8.Fun K m qual st f fd ∧ Binds K fd ps []
def HasI (K : PySem.W.Frag) (mg : Str → Option Value) (x : Str) (C : Addr) (qual : Str) (st : Stmt) (ps : List Str) : Prop := ∃ (f : Addr) (fd : FuncData), Mk K C f ∧ mg x = some (.ref C) ∧ C8.Fun K "__init__" qual st f fd ∧ Binds K fd ps []
section
variable {P : Program} {w : World} {K : PySem.W.Frag} {mg : Str → Option Value} {base : Heap}
theorem met_of {C : Addr} {m qual : Str} {st : Stmt} {N ps : List Str} {k : Nat} {sp : Sp} (c : Cls K C) (h : HasM K C m qual st ps) (S : scC N ps (fnScope st) = true) (len : ∀ vs H Q E, sp vs H Q E → vs.length = ps.length)
    (hb : N.Nodup → ∀ (f : Addr) (cdv : Value) (A : Around) (outer : List Env) (s : Shared) (H : Hp) (vs : List V) (Q : VK) (E : XK), Room k (A.deeper (envOfC qual (fnScope st) s.heap.objs.size f cdv)) → sp vs H Q E →
      ∃ t, PSs (cxOf C8.CX0 P w K mg base N qual (fnScope st) f cdv A outer s H E).nox (fnBody st) t ∧ t { nx := fun _ H' => Q .non H', rt := Q } (start N vs) H) : Met P w K mg base (k + 1) C m sp [] := by
  obtain ⟨f, fd, me, F, b⟩ := h
  exact met0 c me F b (fnScope_by S) len (hb (fnScope_by S).nd f)
theorem mak_of {C : Addr} {x qual : Str} {st : Stmt} {N ps : List Str} {k : Nat} {sp : Sp} (h : HasI K mg x C qual st ps) (S : scC N ps (fnScope st) = true) (len : ∀ vs H Q E, sp vs H Q E → vs.length = ps.length)
    (hb : N.Nodup → ∀ (f : Addr) (cdv : Value) (A : Around) (outer : List Env) (s : Shared) (H : Hp) (vs : List V) (Q : VK) (E : XK), Room k (A.deeper (envOfC qual (fnScope st) s.heap.objs.size f cdv)) → sp vs H Q E →
      ∃ t, PSs (cxOf C8.CX0 P w K mg base N qual (fnScope st) f cdv A outer s H E).nox (fnBody st) t ∧ t { nx := fun _ H' => Q .non H', rt := Q } (start N vs) H) : Mak P w K mg base (k + 1) x C sp [] := by
  obtain ⟨f, fd, M, hm, F, b⟩ := h
  exact mak0 M hm F b .nil (fnScope_by S) len (hb (fnScope_by S).nd f)
end
/-- the attributes of a book, of an office -/
def bookFs (n : Nat) (t ml : Addr) : List (Str × V) := [("people", .int (n : Int)), ("lots", .ref t), ("masks", .ref ml)]
def offFs (b o l d : Addr) : List (Str × V) := [("book", .ref b), ("order", .ref o), ("kept_lasts", .ref l), ("bars", .ref d)]
theorem put_cons_ne {f g : Str} {v x : V} {r : List (Str × V)} (h : ¬ g = f) : putF f v ((g, x) :: r) = (g, x) :: putF f v r := by
  show (if g = f then _ else _) = _
  rw [if_neg h]
theorem put_nil {f : Str} {v : V} : putF f v [] = [(f, v)] := rfl
theorem look_ne {f g : Str} {x : V} {r : List (Str × V)} (h : (f == g) = false) : ((g, x) :: r).lookup f = r.lookup f := by
  rw [List.lookup_cons, h]
theorem look_eq {f : Str} {x : V} {r : List (Str × V)} : ((f, x) :: r).lookup f = some x := by
  rw [List.lookup_cons, beq_self_eq_true]
theorem book_people {n : Nat} {t ml : Addr} : (bookFs n t ml).lookup ("people" : Str) = some (.int (n : Int)) := look_eq
theorem book_lots {n : Nat} {t ml : Addr} : (bookFs n t ml).lookup ("lots" : Str) = some (.ref t) := by
  unfold bookFs
  rw [look_ne (by decide +kernel), look_eq]
theorem book_masks {n : Nat} {t ml : Addr} : (bookFs n t ml).lookup ("masks" : Str) = some (.ref ml) := by
  unfold bookFs
  rw [look_ne (by decide +kernel), look_ne (by decide +kernel), look_eq]
theorem off_book {b o l d : Addr} : (offFs b o l d).lookup ("book" : Str) = some (.ref b) := look_eq
theorem off_order {b o l d : Addr} : (offFs b o l d).lookup ("order" : Str) = some (.ref o) := by
  unfold offFs
  rw [look_ne (by decide +kernel), look_eq]
theorem off_lasts {b o l d : Addr} : (offFs b o l d).lookup ("kept_lasts" : Str) = some (.ref l) := by
  unfold offFs
  rw [look_ne (by decide +kernel), look_ne (by decide +kernel), look_eq]
theorem off_bars {b o l d : Addr} : (offFs b o l d).lookup ("bars" : Str) = some (.ref d) := by
  unfold offFs
  rw [look_ne (by decide +kernel), look_ne (by decide +kernel), look_ne (by decide +kernel), look_eq]
/-- what is asked of the classes, of the module's numbers -/
structure ClF (K : PySem.W.Frag) (mg : Str → Option Value) (CB CO : Addr) : Prop where
  clB : Cls K CB
  nPe : NoAttr K CB "people"
  nLo : NoAttr K CB "lots"
  nMa : NoAttr K CB "masks"
  clO : Cls K CO
  nBo : NoAttr K CO "book"
  nOr : NoAttr K CO "order"
  nKe : NoAttr K CO "kept_lasts"
  nBa : NoAttr K CO "bars"
  insB : InsC K CB
  mgB : mg "Book" = some (.ref CB)
  mp : ∃ u, mg "MOST_PEOPLE" = some u ∧ RelV (.int 12) u
  ml : ∃ u, mg "MOST_LOTS" = some u ∧ RelV (.int 60) u
  mlk : ∃ u, mg "MOST_LOOKS" = some u ∧ RelV (.int 200) u
section
variable {P : Program} {w : World} {K : PySem.W.Frag} {mg : Str → Option Value} {base : Heap} {CB CO : Addr}
def maskV (ks : List (Addr × List Nat)) : List V := ks.map fun p => V.int ((bn p.2 : Nat) : Int)
def spKeep (CB : Addr) : Sp := fun vs H Q _ => ∃ (x dx t : Addr) (n : Nat) (ks : List (Addr × List Nat)), vs = [.ref x, .int (n : Int), .ref t] ∧ H x = some (.ins CB dx []) ∧ Rws H t ks ∧ (∀ p ∈ ks, Cr 12 p.2) ∧ ks.length ≤ 1000 ∧
  ∀ H' ml, But x H H' → H' x = some (.ins CB dx (bookFs n t ml)) → H' ml = some (.lst (maskV ks)) → Q .non H'
theorem ok_keep (T : ClF K mg CB CO) (h : HasM K CB "keep" "Book.keep" (inClass (topS 26) 1) ["self", "people", "lots"]) (c1 : Cal P w K mg base 1 "bits_of" spBitsOf []) : Met P w K mg base 2 CB "keep" (spKeep CB) [] := by
  refine met_of (N := ["self", "people", "lots", "lot"]) T.clB h (by decide +kernel) (fun vs H Q E h => ?_) (fun nd f cdv A outer s H vs Q E hr h => ?_)
  · obtain ⟨x, dx, t, n, ks, rfl, _⟩ := h
    rfl
  · obtain ⟨x, dx, t, n, ks, rfl, hx, ht, hc, hz, q⟩ := h
    refine ⟨_, pss_cons (ps_fld (pv 0) (pv 1) rfl) (pss_cons (ps_fld (pv 0) (pv 2) rfl) (pss_one (ps_fld (pv 0)
      (pe_lc (own := [("lot", 3)]) (g := gName 3) (tt := tYes) rfl nd (piT K (pv 2)) (blkOk_by (own := [("lot", 3)]) (N := ["self", "people", "lots", "lot"]) (sc := fnScope (inClass (topS 26) 1)) (by decide +kernel))
        (fun _ _ _ _ _ => pg_name (i := 3) nd rfl (Or.inl rfl)) (fun _ _ _ _ _ => pts_nil) (fun _ _ _ _ _ => pe_c c1 hr (by decide) (by rfl) (pa_cons (pv 3) pa_nil))) rfl))), ?_⟩
    have ne : ∀ {b : Addr} {xs : List V}, H b = some (.tup xs) → b ≠ x := fun e => ne_of e hx (by intro z; cases z)
    refine ⟨_, rfl, _, rfl, x, CB, dx, [], rfl, hx, T.clB, T.nPe, by decide, ?_⟩
    refine ⟨_, rfl, _, rfl, x, CB, dx, _, rfl, upd_same, T.clB, T.nLo, by show 1 < 1000; decide, ?_⟩
    rw [upd_upd, put_nil, put_cons_ne (by decide +kernel), put_nil]
    generalize hH1 : upd H x (.ins CB dx [("people", V.int (n : Int)), ("lots", V.ref t)]) = H1
    have x1 : H1 x = some (.ins CB dx [("people", V.int (n : Int)), ("lots", V.ref t)]) := by rw [← hH1, upd_same]
    have b1 : But x H H1 := by rw [← hH1]; exact but_upd
    have t1 : Rws H1 t ks := ⟨b1 _ _ (ne ht.top) ht.top, fun p hp => b1 _ _ (ne (ht.each p hp)) (ht.each p hp)⟩
    refine ⟨_, rfl, t, rfl, ⟨_, SqT.of t1.top⟩, fun D hD => ?_⟩
    refine lc_it (walk_tup (xs := ks.map fun p => V.ref p.1)) (fun i => Acc H1 D (maskV (ks.take i))) (acc_nil hD) (fun _ _ _ a => SqT.of (a.sm _ _ t1.top)) (fun i y H2 H3 hi a hy => ?_) (fun H2 a => ?_)
    · obtain ⟨rfl, hy⟩ := hy
      obtain ⟨p, hp, rfl⟩ := ks_at hy
      have hpm := List.mem_of_getElem? hp
      have hcp := hc p hpm
      refine ⟨rfl, _, rfl, p.1, p.2, rfl, a.sm _ _ (t1.each p hpm), Nat.le_trans hcp.len (by decide), fun k hk => Nat.le_trans (Nat.le_of_lt (hcp.1 k hk)) (by decide), fun H4 s4 => ?_⟩
      refine (a.more s4).put hD ?_ ?_
      · unfold maskV
        rw [List.length_map, List.length_take]
        omega
      · unfold maskV
        rw [take_more _ hp]
    · rw [List.length_map, List.take_length] at a
      have x2 := a.sm _ _ x1
      have nx : D ≠ x := ne_of a.at_ x2 (by intro z; cases z)
      refine ⟨_, rfl, x, CB, dx, _, rfl, x2, T.clB, T.nMa, by show 2 < 1000; decide, ?_⟩
      rw [put_cons_ne (by decide +kernel), put_cons_ne (by decide +kernel), put_nil]
      refine q _ D (fun b o hb e => ?_) upd_same ?_
      · rw [upd_ne hb]
        exact a.sm _ _ (b1 _ _ hb e)
      · rw [upd_ne nx]
        exact a.at_
def spBook (CB : Addr) : Sp := fun vs H Q _ => ∃ (x dx t : Addr) (n : Nat) (ks : List (Addr × List Nat)), vs = [.ref x, .int (n : Int), .ref t] ∧ H x = some (.ins CB dx []) ∧ Rws H t ks ∧ Lots n (rows ks) ∧ 1 ≤ n ∧ n ≤ 6 ∧
  ∀ H' ml, But x H H' → H' x = some (.ins CB dx (bookFs n t ml)) → H' ml = some (.lst (maskV ks)) → Q .non H'
theorem ok_book (B : Bi mg) (T : ClF K mg CB CO) (h : HasI K mg "Book" CB "Book.__init__" (inClass (topS 26) 0) ["self", "people", "lots"]) (c1 : Cal P w K mg base 2 "is_within" spIsWithin []) (c2 : Cal P w K mg base 6 "first_wrong_lot" spFirst [])
    (c3 : Met P w K mg base 2 CB "keep" (spKeep CB) []) : Mak P w K mg base 7 "Book" CB (spBook CB) [] := by
  refine mak_of (N := ["self", "people", "lots", "at"]) h (by decide +kernel) (fun vs H Q E h => ?_) (fun nd f cdv A outer s H vs Q E hr h => ?_)
  · obtain ⟨x, dx, t, n, ks, rfl, _⟩ := h
    rfl
  · obtain ⟨x, dx, t, n, ks, rfl, hx, ht, hL, h1, h6, q⟩ := h
    refine ⟨_, pss_cons (ps_if (pt_not (pt_val (pe_c c1 hr (by decide) (by rfl) (pa_cons (pv 1) (pa_cons pe_int (pa_cons (pe_gc (by rfl) T.mp) pa_nil)))))) pss_never pss_nil)
      (pss_cons (ps_if (PW.pt (pw_or (pt_not (pt_val (pe_callB call_isi (by rfl) B.isinstance (by decide +kernel) (pa_cons (pv 2) (pa_cons (pe_bltn (by rfl) B.tuple (v := .ty "tuple") (by decide +kernel) rfl) pa_nil)))))
          (pw_or1 (pt_cmpR op_gt (pe_callB call_len_seq (by rfl) B.len PySem.boot_len (pa_cons (pv 2) pa_nil)) (pe_gc (by rfl) T.ml) (nomark _))))) pss_never pss_nil)
      (pss_cons (ps_set (i := 3) nd rfl (Or.inl rfl) (pe_c c2 hr (by decide) (by rfl) (pa_cons (pv 1) (pa_cons (pv 2) pa_nil))))
      (pss_cons (ps_if (pt_cmpR op_notN (pv 3) pe_non (nomark _)) pss_never pss_nil)
      (pss_one (ps_expr (pe_mt c3 hr (by decide) (pv 0) (pa_cons (pv 1) (pa_cons (pv 2) pa_nil)))))))), ?_⟩
    have few := hL.few h6
    have hlen : ks.length ≤ 57 := by
      have z : (rows ks).length = ks.length := List.length_map _
      omega
    refine ⟨_, rfl, .int (n : Int), 1, 12, rfl, .int _, _, rfl, ?_⟩
    rw [show wit (.int (n : Int)) 1 12 = true from decide_eq_true (by omega)]
    refine iteF ?_
    refine ⟨_, rfl, _, .ty "tuple", _, _, _, rfl, .ty _, .base (.tup ht.top), kit_ty kit_tt, _, rfl, iteF ⟨_, rfl, t, _, rfl, .inr (SqT.of ht.top), _, _, rfl, rfl, _, rfl, ?_⟩⟩
    refine iteF' (decide_eq_false (by rw [List.length_map]; omega)) ?_
    refine ⟨_, rfl, _, rfl, n, t, ks, rfl, ht, hL, by omega, by omega, fun H1 s1 => ?_⟩
    refine ⟨_, rfl, rfl, _, rfl, iteF' rfl ?_⟩
    refine ⟨_, rfl, x, dx, [], rfl, s1 _ _ hx, rfl, _, rfl, _, rfl, x, dx, t, n, ks, rfl, s1 _ _ hx, ht.same s1, fun p hp => ((hL.cr p.2 (List.mem_map.mpr ⟨p, hp, rfl⟩)).1).mono (by omega), by omega, fun H2 ml b2 x2 m2 => ?_⟩
    exact q H2 ml (fun b o hb e => b2 b o hb (s1 _ _ e)) x2 m2
end
end Lk
/-! lasts_in. -/
namespace Lk
open PySem PySem.Spec PyProof.Rows L2 C8
def IsLast (od l : List Nat) (q : Nat) : Prop := q ∈ l ∧ ∀ k ∈ l, od.idxOf k ≤ od.idxOf q
/-- what a dict comprehension has made so far -/
structure AccK (H1 : Hp) (D : Addr) (l : List (Key × V)) (H : Hp) : Prop where
  sm : Same H1 H
  at_ : H D = some (.dK l)
theorem AccK.more {H1 H H' : Hp} {D : Addr} {l : List (Key × V)} (h : AccK H1 D l H) (s : Same H H') : AccK H1 D l H' := ⟨h.sm.trans s, s _ _ h.at_⟩
/-- a dict comprehension over what is walked -/
theorem dc_it {J : It} {n : Nat} {G : Hp → Prop} {Y : Nat → Hp → V → Hp → Prop} (w : Walk J n G Y) {g : TG} {tt : TT} {tk tv : TE} {vs : List Nat} {σ : L2.St} {H1 : Hp} {D : Addr} {Qd : Hp → Prop} (Pv : Nat → Hp → Prop) (h0 : Pv 0 (upd H1 D (.dK []))) (hG : ∀ i H, i ≤ n → Pv i H → G H)
    (hs : ∀ i x H H', i < n → Pv i H → Y i H x H' → g x (wipe σ vs) H' fun σ2 H2 => wipe σ2 vs = wipe σ vs ∧ tt σ2 H2 fun b H3 =>
      if b = true then tk σ2 H3 fun y H4 => tv σ2 H4 fun z H5 => ∃ kvs k, y = kV k ∧ H5 D = some (.dK kvs) ∧ kvs.length < sizeLine ∧ Pv (i + 1) (upd H5 D (.dK (putK kvs k z))) else Pv (i + 1) H3) (hd : ∀ H, Pv n H → Qd H) :
    ∃ W : Nat → Nat → Hp → Prop, (∃ m, W 0 m (upd H1 D (.dK []))) ∧ ∀ i m H, W i m H →
      (J.stop i H ∧ Qd H) ∨ (J.go i H ∧ ∃ Nx : Hp → Prop, (∀ H', Nx H' → ∃ m', m' < m ∧ W (i + 1) m' H') ∧ ∀ x H', J.yld i H x H' → g x (wipe σ vs) H' fun σ2 H2 => wipe σ2 vs = wipe σ vs ∧ tt σ2 H2 fun b H3 =>
        if b = true then tk σ2 H3 fun y H4 => tv σ2 H4 fun z H5 => ∃ kvs k, y = kV k ∧ H5 D = some (.dK kvs) ∧ kvs.length < sizeLine ∧ Nx (upd H5 D (.dK (putK kvs k z))) else Nx H3) := by
  refine ⟨fun i m H => m + i = n ∧ Pv i H, ⟨n, Nat.add_zero n, h0⟩, ?_⟩
  rintro i m H ⟨hm, p⟩
  have q := hG i H (by omega) p
  by_cases hlt : i < n
  · exact .inr ⟨w.goes i H hlt q, Pv (i + 1), fun H' p' => ⟨m - 1, by omega, by omega, p'⟩, fun x H' y => hs i x H H' hlt p (w.yields i H x H' hlt q y)⟩
  · have e : i = n := by omega
    subst e
    exact .inl ⟨w.stops H q, hd H p⟩
theorem pg_tupK (K : PySem.W.Frag) {X : Cx} {es : List Expr} {k n : Nat} {t : TGs} {pos : Pos} (hc : X.calm = true) (h : PGs X es t) (hK : X.K = K := by rfl) (hn : (assignEach es X.env).length = n := by rfl) (hst : (assignEach es X.env).findIdx? (·.1) = none := by rfl) :
    PG X (.Tuple es k pos) (gTup K n t) := by
  subst hK
  exact pg_tup hc h hn hst
/-! ### the parts of a text's tree -/
def retE : Stmt → Expr
  | .Return (some e) _ => e
  | _ => .Constant .none 0 ⟨0, 0, 0, 0⟩
def asgE : Stmt → Expr
  | .Assign _ e _ => e
  | _ => .Constant .none 0 ⟨0, 0, 0, 0⟩
def argE : Expr → Nat → Expr
  | .Call _ es _ _, i => es.getD i (.Constant .none 0 ⟨0, 0, 0, 0⟩)
  | _, _ => .Constant .none 0 ⟨0, 0, 0, 0⟩
def lcS : Expr → Scope
  | .ListComp _ _ sc _ => sc
  | _ => ⟨.function, [], false, false, []⟩
theorem idx_at {od : List Nat} (hn : od.Nodup) {j k : Nat} (h : od[j]? = some k) : od.idxOf k = j := by
  have hk : k ∈ od := List.mem_of_getElem? h
  have h1 : od.idxOf k < od.length := List.idxOf_lt_length_of_mem hk
  have h2 : od[od.idxOf k]? = some k := by
    rw [List.getElem?_eq_getElem h1, List.getElem_idxOf h1]
  exact nd_ix hn h2 h
theorem at_idx {od : List Nat} {k : Nat} (hk : k ∈ od) : od[od.idxOf k]? = some k := by
  have h1 : od.idxOf k < od.length := List.idxOf_lt_length_of_mem hk
  rw [List.getElem?_eq_getElem h1, List.getElem_idxOf h1]
section
variable {P : Program} {w : World} {K : PySem.W.Frag} {mg : Str → Option Value} {base : Heap} {CB CO : Addr}
def spLastsIn (CB : Addr) : Sp := fun vs H Q _ => ∃ (b dxb t ml ot : Addr) (n : Nat) (ks : List (Addr × List Nat)) (od : List Nat), vs = [.ref b, .ref ot] ∧ H b = some (.ins CB dxb (bookFs n t ml)) ∧ Rws H t ks ∧ H ot = some (.tup (nums od)) ∧ od.Nodup ∧
  od.length ≤ 1000 ∧ ks.length ≤ 1000 ∧ (∀ p ∈ ks, (∀ k ∈ p.2, k ∈ od) ∧ 1 ≤ p.2.length ∧ p.2.length ≤ 1000) ∧
  ∀ H' p (ls : List Nat), Same H H' → H' p = some (.tup (nums ls)) → ls.length = ks.length → (∀ (i : Nat) (r : Addr × List Nat) (q : Nat), ks[i]? = some r → ls[i]? = some q → IsLast od r.2 q) → Q (.ref p) H'
abbrev nLasts : List Str := ["book", "order", "places", "place", "person", "lot"]
theorem ok_lasts_in (B : Bi mg) (T : ClF K mg CB CO) (h : Has K mg "lasts_in" (topS 28) ["book", "order"]) : Cal P w K mg base 1 "lasts_in" (spLastsIn CB) [] := by
  refine cal_of (N := nLasts) h (by decide +kernel) (fun vs H Q E h => ?_) (fun nd f cdv A outer s H vs Q E hr h => ?_)
  · obtain ⟨b, dxb, t, ml, ot, n, ks, od, rfl, _⟩ := h
    rfl
  · obtain ⟨b, dxb, t, ml, ot, n, ks, od, rfl, hb, ht, ho, hn, hz1, hz2, hl, q⟩ := h
    have hu := hu_of hr
    have hu64 := hr.units
    refine ⟨_, pss_cons (ps_set (i := 2) nd rfl (Or.inr rfl) (pe_dc (own := [("place", 3), ("person", 4)]) (tt := tYes) rfl nd (pi_enumT K (by rfl) B.enumerate (pa_cons (pv 1) pa_nil))
        (blkOk_by (own := [("place", 3), ("person", 4)]) (N := nLasts) (sc := fnScope (topS 28)) (by decide +kernel))
        (fun _ _ _ _ _ => pg_tupK (n := 2) K rfl (pgs_cons (pg_name (i := 3) nd rfl (Or.inl rfl)) (pgs_cons (pg_name (i := 4) nd rfl (Or.inl rfl)) pgs_nil))) (fun _ _ _ _ _ => pts_nil) (fun _ _ _ _ _ => pv 4) (fun _ _ _ _ _ => pv 3)))
      (pss_one (ps_ret (pe_callTy call_tuple_of (by rfl) B.tuple (by decide +kernel) (pa_cons (pe_lc (own := [("lot", 5)]) (g := gName 5) (tt := tYes) rfl nd (piT K (pe_fld (pv 0) rfl))
        (blkOk_by (own := [("lot", 5)]) (N := nLasts) (sc := fnScope (topS 28)) (by decide +kernel)) (fun _ _ _ _ _ => pg_name (i := 5) nd rfl (Or.inl rfl)) (fun _ _ _ _ _ => pts_nil)
        (fun _ _ _ _ _ => pe_ix (ixT K) (pe_callB (cr_maxP K rfl hu64) (by rfl) B.max (by decide +kernel) (pa_cons (pe_lc (own := [("person", 4)]) (g := gName 4) (tt := tYes) rfl nd (piT K (pv 5))
          (blkOk_by (own := [("person", 4)]) (N := nLasts) (sc := relS (lcS (argE (retE ((fnBody (topS 28)).getD 1 (.Pass ⟨0, 0, 0, 0⟩))) 0)) (fnScope (topS 28))) (by decide +kernel)) (fun _ _ _ _ _ => pg_name (i := 4) nd rfl (Or.inl rfl)) (fun _ _ _ _ _ => pts_nil)
          (fun _ _ _ _ _ => pe_tup (pa_cons (pe_dget hu (pv 2) (pv 4) (fun _ _ => rfl)) (pa_cons (pv 4) pa_nil)))) pa_nil)) pe_int (fun _ _ => rfl))) pa_nil)))), ?_⟩
    refine ⟨_, rfl, ot, nums od, rfl, SqT.of ho, fun D hD => ?_⟩
    have D0 : But D H (upd H D (.dK [])) := but_upd
    refine dc_it (walk_enumT (xs := nums od)) (fun i H2 => ∃ kvs, AccK H D kvs H2 ∧ kvs.length ≤ i ∧ ∀ (j k : Nat), j < i → od[j]? = some k → valV kvs (.inl (k : Int)) = some (.int (j : Int)))
      ⟨[], ⟨same_new hD, upd_same⟩, Nat.le_refl _, fun j k hj => absurd hj (Nat.not_lt_zero _)⟩ (fun i H2 _ a => by obtain ⟨kvs, a, _⟩ := a; exact SqT.of (a.sm _ _ ho)) (fun i y H2 H3 hi a hy => ?_) (fun H2 a => ?_)
    · obtain ⟨kvs, a, hlen, hk⟩ := a
      obtain ⟨T1, x1, y1, rfl, hT, rfl, e1, e2⟩ := hy
      obtain ⟨p, hp, rfl⟩ := nums_get e2
      have e1' : x1 = .int (i : Int) := (Option.some.inj e1).symm
      subst e1'
      have hi' : i < od.length := by rw [nums_len] at hi; exact hi
      refine ⟨T1, [.int (i : Int), .int (p : Int)], rfl, SqT.of upd_same, rfl, _, [.int (p : Int)], rfl, _, [], rfl, rfl, ?_⟩
      have a2 := a.more (same_new (o := .tup [V.int (i : Int), V.int (p : Int)]) hT)
      refine ⟨rfl, _, rfl, _, rfl, kvs, .inl (p : Int), rfl, a2.at_, szl (by omega), _, ⟨fun b o e => ?_, upd_same⟩, Nat.le_trans (length_putK _ _ _) (by omega), fun j k hj hjk => ?_⟩
      · rw [upd_ne (ne_of_none e hD)]
        exact a2.sm b o e
      · rw [valV_put]
        by_cases e : (Sum.inl (k : Int) : Key) = .inl (p : Int)
        · have ek : k = p := Int.ofNat.inj (Sum.inl.inj e)
          subst ek
          rw [if_pos e, nd_ix hn hjk hp]
        · rw [if_neg e]
          refine hk j k ?_ hjk
          rcases Nat.lt_or_ge j i with z | z
          · exact z
          · have : j = i := by omega
            subst this
            rw [hp] at hjk
            exact absurd (by rw [Option.some.inj hjk]) e
    · rw [nums_len] at a
      obtain ⟨kvs, a, hlen, hk⟩ := a
      have pl : ∀ k ∈ od, valV kvs (.inl (k : Int)) = some (.int (od.idxOf k : Int)) := fun k hk' => hk _ k (List.idxOf_lt_length_of_mem hk') (at_idx hk')
      have s1 := a.sm
      have b1 := s1 _ _ hb
      have t1 := ht.same s1
      have d1 := a.at_
      generalize H2 = H1 at *
      clear a
      refine ⟨_, rfl, b, CB, dxb, _, .ref t, rfl, b1, T.clB, T.nLo, book_lots, t, rfl, ⟨_, SqT.of t1.top⟩, fun D2 hD2 => ?_⟩
      refine lc_it (walk_tup (xs := ks.map fun p => V.ref p.1)) (fun i H2 => ∃ ls, Acc H1 D2 (nums ls) H2 ∧ ls.length = i ∧ ∀ (j : Nat) (r : Addr × List Nat) (q : Nat), ks[j]? = some r → ls[j]? = some q → IsLast od r.2 q)
        ⟨[], acc_nil hD2, rfl, fun j r q _ z => by cases z⟩ (fun i H2 _ a => by obtain ⟨ls, a, _⟩ := a; exact SqT.of (a.sm _ _ t1.top)) (fun i y H2 H3 hi a hy => ?_) (fun H2 a => ?_)
      · obtain ⟨ls, a, hli, hls⟩ := a
        obtain ⟨rfl, hy⟩ := hy
        obtain ⟨p, hp, rfl⟩ := ks_at hy
        have hpm := List.mem_of_getElem? hp
        obtain ⟨ho1, hp1, hp2⟩ := hl p hpm
        have tp := a.sm _ _ (t1.each p hpm)
        have hi' : i < ks.length := by rw [List.length_map] at hi; exact hi
        refine ⟨rfl, _, rfl, p.1, rfl, ⟨_, SqT.of tp⟩, fun D3 hD3 => ?_⟩
        refine lc_it (walk_tup (xs := nums p.2)) (fun j H4 => ∃ ps : List (Addr × Int × Int), Acc H3 D3 (ps.map fun x => V.ref x.1) H4 ∧ (∀ x ∈ ps, H4 x.1 = some (.tup [.int x.2.1, .int x.2.2])) ∧ ps.map (·.2) = (p.2.take j).map fun k => ((od.idxOf k : Int), (k : Int)))
          ⟨[], acc_nil hD3, fun x hx => absurd hx List.not_mem_nil, rfl⟩ (fun j H4 _ a => by obtain ⟨ps, a, _⟩ := a; exact SqT.of (a.sm _ _ tp)) (fun j y H4 H5 hj aj hy => ?_) (fun H4 aj => ?_)
        · obtain ⟨ps, aj, hps, hpe⟩ := aj
          obtain ⟨rfl, hy⟩ := hy
          obtain ⟨k, hk1, rfl⟩ := nums_get hy
          have hkm := ho1 k (List.mem_of_getElem? hk1)
          have dk := aj.sm _ _ (a.sm _ _ d1)
          refine ⟨rfl, _, rfl, _, rfl, D, .int (od.idxOf k : Int), rfl, ?_, _, rfl, by show 2 ≤ sizeLine; decide, fun T2 hT2 => ?_⟩
          · have g := DGet.k (k := .inl (k : Int)) dk
            rw [pl k hkm] at g
            exact g
          · have lps : ps.length ≤ j := by
              have z := congrArg List.length hpe
              rw [List.length_map, List.length_map, List.length_take] at z
              omega
            have hj' : j < p.2.length := by rw [nums_len] at hj; exact hj
            have aj2 := aj.more (same_new (o := .tup [V.int (od.idxOf k : Int), V.int (k : Int)]) hT2)
            have nT : T2 ≠ D3 := ne_of upd_same aj2.at_ (by intro z; cases z)
            refine ⟨_, aj2.at_, by rw [List.length_map]; exact szl (by omega), ps ++ [(T2, (od.idxOf k : Int), (k : Int))], ⟨fun b o e => ?_, ?_⟩, fun x hx => ?_, ?_⟩
            · rw [upd_ne (ne_of_none e hD3)]
              exact aj2.sm b o e
            · rw [upd_same, List.map_append]
              rfl
            · rcases List.mem_append.mp hx with z | z
              · have e := hps x z
                have e2 : x.1 ≠ T2 := ne_of_none e hT2
                rw [upd_ne (ne_of e aj.at_ (by intro z; cases z)), upd_ne e2]
                exact e
              · rw [List.mem_singleton.mp z, upd_ne nT, upd_same]
            · rw [List.map_append, hpe, take_more _ hk1]
              rfl
        · obtain ⟨ps, aj, hps, hpe⟩ := aj
          rw [nums_len, List.take_length] at hpe
          have hne : ps ≠ [] := by
            intro z
            rw [z] at hpe
            have := congrArg List.length hpe
            rw [List.length_map] at this
            simp at this
            omega
          refine ⟨D3, ps, rfl, SqL.of aj.at_, fun x hx => SqT.of (hps x hx), hne, fun x hx hmax => ?_⟩
          obtain ⟨k, hk1, ek⟩ : ∃ k ∈ p.2, ((od.idxOf k : Int), (k : Int)) = x.2 := by
            have z : x.2 ∈ ps.map (·.2) := List.mem_map.mpr ⟨x, hx, rfl⟩
            rw [hpe] at z
            exact List.mem_map.mp z
          refine ⟨x.1, _, 1, .int x.2.2, rfl, rfl, SqT.of (hps x hx), rfl, ?_⟩
          have a5 := a.more aj.sm
          refine ⟨_, a5.at_, by rw [nums_len]; exact szl (by omega), ls ++ [k], ⟨fun b o e => ?_, ?_⟩, by rw [List.length_append, hli]; rfl, fun j r q hj hq => ?_⟩
          · rw [upd_ne (ne_of_none e hD2)]
            exact a5.sm b o e
          · rw [upd_same, nums_app, ← ek]
            rfl
          · rcases Nat.lt_or_ge j i with z | z
            · rw [List.getElem?_append_left (by omega)] at hq
              exact hls j r q hj hq
            · rw [List.getElem?_append_right (by omega)] at hq
              have e0 : j - ls.length = 0 := by
                rcases Nat.eq_zero_or_pos (j - ls.length) with e | e
                · exact e
                · rw [List.getElem?_eq_none (by show 1 ≤ _; omega)] at hq
                  cases hq
              rw [e0] at hq
              have eq : k = q := Option.some.inj hq
              have ej : j = i := by omega
              subst ej
              subst eq
              rw [hp] at hj
              rw [← Option.some.inj hj]
              refine ⟨hk1, fun k2 hk2 => ?_⟩
              have z : ((od.idxOf k2 : Int), (k2 : Int)) ∈ ps.map (·.2) := by
                rw [hpe]
                exact List.mem_map.mpr ⟨k2, hk2, rfl⟩
              obtain ⟨x2, hx2, e2⟩ := List.mem_map.mp z
              have z2 := hmax x2 hx2
              rw [e2, ← ek] at z2
              exact Int.ofNat_le.mp z2
      · rw [List.length_map] at a
        obtain ⟨ls, a, hli, hls⟩ := a
        refine ⟨D2, nums ls, rfl, .inl ⟨SqL.of a.at_, fun p hp => ?_⟩⟩
        exact q _ p ls ((s1.trans a.sm).trans (same_new hp)) upd_same hli hls
end
end Lk
/-! The class Office; who is barred; who is in. -/
namespace Lk
open PySem PySem.Spec PyProof.Rows L2 C8
theorem lasts_of {n : Nat} {od ls : List Nat} {lots : List (List Nat)} (hn : od.Nodup) (hl : ∀ l ∈ lots, Cr n l ∧ ∀ k ∈ l, k ∈ od) (h : ∀ (i : Nat) (r : List Nat) (q : Nat), lots[i]? = some r → ls[i]? = some q → IsLast od r q) :
    Lasts od ((lots.map bn).zip ls) := by
  have get : ∀ z ∈ (lots.map bn).zip ls, ∃ l ∈ lots, z.1 = bn l ∧ IsLast od l z.2 := by
    intro z hz
    obtain ⟨i, hi, e⟩ := List.mem_iff_getElem.mp hz
    have e2 : ((lots.map bn).zip ls)[i]? = some z := by rw [List.getElem?_eq_getElem hi, e]
    rw [List.getElem?_zip_eq_some, List.getElem?_map] at e2
    obtain ⟨e3, e4⟩ := e2
    obtain ⟨l, hl1, hl2⟩ := Option.map_eq_some_iff.mp e3
    exact ⟨l, List.mem_of_getElem? hl1, hl2.symm, h i l z.2 hl1 e4⟩
  have bit : ∀ l ∈ lots, ∀ k, (bn l).testBit k = true ↔ k ∈ l := fun l hm k => by
    rw [testBit_bn (hl l hm).1.2, decide_eq_true_eq]
  have mid : ∀ {pre post : List Nat} {q : Nat}, od = pre ++ q :: post → od.idxOf q = pre.length := fun {pre post q} e => idx_at hn (by rw [e, List.getElem?_append_right (Nat.le_refl _), Nat.sub_self]; rfl)
  refine ⟨fun z hz => ?_, fun z hz k hk => ?_, fun z hz pre post q e hall hq => ?_, fun z hz pre post e k hk => ?_⟩
  · obtain ⟨l, hm, e, il⟩ := get z hz
    rw [e]
    exact (bit l hm _).mpr il.1
  · obtain ⟨l, hm, e, il⟩ := get z hz
    rw [e] at hk
    exact (hl l hm).2 k ((bit l hm _).mp hk)
  · obtain ⟨l, hm, e1, il⟩ := get z hz
    rw [e1] at hq
    rcases hall z.2 (by rw [e1]; exact (bit l hm _).mpr il.1) with w | w
    · obtain ⟨j, hj, ej⟩ := List.mem_iff_getElem.mp w
      have i1 : od.idxOf z.2 = j := idx_at hn (by rw [e, List.getElem?_append_left hj, List.getElem?_eq_getElem hj, ej])
      have i2 := mid e
      have i3 := il.2 q ((bit l hm _).mp hq)
      omega
    · exact w
  · obtain ⟨l, hm, e1, il⟩ := get z hz
    rw [e1] at hk
    have hkl := (bit l hm _).mp hk
    have i1 := il.2 k hkl
    have i2 := mid e
    have i3 := at_idx ((hl l hm).2 k hkl)
    rcases Nat.lt_or_ge (od.idxOf k) pre.length with w | w
    · refine .inl ?_
      rw [e, List.getElem?_append_left (by rw [← e]; exact w)] at i3
      exact List.mem_of_getElem? i3
    · refine .inr ?_
      have e4 : od.idxOf k = od.idxOf z.2 := by omega
      rw [e4, at_idx ((hl l hm).2 z.2 il.1)] at i3
      exact (Option.some.inj i3).symm
/-- the list of the bars of a person -/
def BarL (H : Hp) (a : Addr) (ms : List Nat) : Prop := ∃ es : List (Addr × Nat × Nat), H a = some (.lst (es.map fun e => V.ref e.1)) ∧ (∀ e ∈ es, H e.1 = some (.tup [.int (e.2.1 : Int), .int (e.2.2 : Int)])) ∧ es.map (·.2.1) = ms
theorem BarL.same {H H' : Hp} {a : Addr} {ms : List Nat} (h : BarL H a ms) (s : Same H H') : BarL H' a ms := by
  obtain ⟨es, h1, h2, h3⟩ := h
  exact ⟨es, s _ _ h1, fun e he => s _ _ (h2 e he), h3⟩
structure OffD (CB CO : Addr) (H : Hp) (o b t ml ot l d dxo dxb : Addr) (n : Nat) (kvs : List (Key × V)) (od : List Nat) (zs : List (Nat × Nat)) : Prop where
  at_ : H o = some (.ins CO dxo (offFs b ot l d))
  bk : H b = some (.ins CB dxb (bookFs n t ml))
  or : H ot = some (.tup (nums od))
  dk : H d = some (.dK kvs)
  bars : ∀ k ∈ od, ∃ a, valV kvs (.inl (k : Int)) = some (.ref a) ∧ BarL H a (oth zs k)
/-- an office -/
def Off (CB CO : Addr) (H : Hp) (o : Addr) (n : Nat) (od : List Nat) (zs : List (Nat × Nat)) : Prop := ∃ b t ml ot l d dxo dxb kvs, OffD CB CO H o b t ml ot l d dxo dxb n kvs od zs
theorem Off.same {CB CO : Addr} {H H' : Hp} {o : Addr} {n : Nat} {od : List Nat} {zs : List (Nat × Nat)} (h : Off CB CO H o n od zs) (s : Same H H') : Off CB CO H' o n od zs := by
  obtain ⟨b, t, ml, ot, l, d, dxo, dxb, kvs, h⟩ := h
  refine ⟨b, t, ml, ot, l, d, dxo, dxb, kvs, s _ _ h.at_, s _ _ h.bk, s _ _ h.or, s _ _ h.dk, fun k hk => ?_⟩
  obtain ⟨a, h1, h2⟩ := h.bars k hk
  exact ⟨a, h1, h2.same s⟩
theorem oth_more {zs : List (Nat × Nat)} {i k : Nat} {z : Nat × Nat} (h : zs[i]? = some z) : oth (zs.take (i + 1)) k = oth (zs.take i) k ++ if z.2 = k then [z.1 ^^^ 2 ^ k] else [] := by
  unfold oth
  rw [List.take_add_one, h, List.filter_append, List.map_append]
  congr 1
  by_cases e : z.2 = k
  · rw [if_pos e]
    show List.map _ (List.filter _ [z]) = _
    rw [List.filter_cons_of_pos (by exact decide_eq_true e)]
    rfl
  · rw [if_neg e]
    show List.map _ (List.filter _ [z]) = _
    rw [List.filter_cons_of_neg (by rw [decide_eq_false e]; exact Bool.false_ne_true)]
    rfl
section
variable {P : Program} {w : World} {K : PySem.W.Frag} {mg : Str → Option Value} {base : Heap} {CB CO : Addr}
def spOffice (CB CO : Addr) : Sp := fun vs H Q _ => ∃ (x dx b dxb t ml ot : Addr) (n : Nat) (ks : List (Addr × List Nat)) (od : List Nat), vs = [.ref x, .ref b, .ref ot] ∧ H x = some (.ins CO dx []) ∧ H b = some (.ins CB dxb (bookFs n t ml)) ∧
  H ml = some (.lst (maskV ks)) ∧ Rws H t ks ∧ (∀ p ∈ ks, Cr n p.2 ∧ 2 ≤ p.2.length) ∧ ks.length ≤ 57 ∧ H ot = some (.tup (nums od)) ∧ od.Nodup ∧ (∀ k ∈ od, k < n) ∧ od.length = n ∧ n ≤ 6 ∧
  ∀ H' zs, But x H H' → Off CB CO H' x n od zs → Lasts od zs → zs.map (·.1) = ks.map (fun p => bn p.2) → Q .non H'
theorem all_in {od : List Nat} {n : Nat} (hn : od.Nodup) (hk : ∀ k ∈ od, k < n) (hl : od.length = n) {k : Nat} (h : k < n) : k ∈ od := by
  rcases Classical.em (k ∈ od) with z | z
  · exact z
  · have := nodup_le (k :: od) (List.range n) (List.nodup_cons.mpr ⟨z, hn⟩) (fun x hx => by
      rcases List.mem_cons.mp hx with rfl | hx
      · exact List.mem_range.mpr h
      · exact List.mem_range.mpr (hk x hx))
    rw [List.length_cons, List.length_range] at this
    omega
abbrev nOffice : List Str := ["self", "book", "order", "person", "number", "last"]
theorem ok_office (B : Bi mg) (T : ClF K mg CB CO) (h : HasI K mg "Office" CO "Office.__init__" (inClass (topS 29) 0) ["self", "book", "order"]) (c1 : Cal P w K mg base 5 "is_order" spOrder []) (c2 : Cal P w K mg base 1 "lasts_in" (spLastsIn CB) []) :
    Mak P w K mg base 6 "Office" CO (spOffice CB CO) [] := by
  refine mak_of (N := nOffice) h (by decide +kernel) (fun vs H Q E h => ?_) (fun nd f cdv A outer s H vs Q E hr h => ?_)
  · obtain ⟨x, dx, b, dxb, t, ml, ot, n, ks, od, rfl, _⟩ := h
    rfl
  · obtain ⟨x, dx, b, dxb, t, ml, ot, n, ks, od, rfl, hx, hb, hm, ht, hks, hkl, ho, hn, hod, hol, h6, q⟩ := h
    have hu := hu_of hr
    refine ⟨_, pss_cons (ps_if (pt_not (pt_val (pe_callB (call_isC T.insB) (by rfl) B.isinstance (by decide +kernel) (pa_cons (pv 1) (pa_cons (pe_gc (v := .ref CB) (by rfl) ⟨_, T.mgB, rfl⟩) pa_nil))))) pss_never pss_nil)
      (pss_cons (ps_if (pt_not (pt_val (pe_c c1 hr (by decide) (by rfl) (pa_cons (pe_fld (pv 1) rfl) (pa_cons (pv 2) pa_nil))))) pss_never pss_nil)
      (pss_cons (ps_fld (pv 0) (pv 1) rfl) (pss_cons (ps_fld (pv 0) (pv 2) rfl)
      (pss_cons (ps_fld (pv 0) (pe_c c2 hr (by decide) (by rfl) (pa_cons (pv 1) (pa_cons (pv 2) pa_nil))) rfl)
      (pss_cons (ps_fld (pv 0) (pe_dc (own := [("person", 3)]) (tt := tYes) (g := gName 3) rfl nd (piT K (pv 2)) (blkOk_by (own := [("person", 3)]) (N := nOffice) (sc := fnScope (inClass (topS 29) 0)) (by decide +kernel))
        (fun _ _ _ _ _ => pg_name (i := 3) nd rfl (Or.inl rfl)) (fun _ _ _ _ _ => pts_nil) (fun _ _ _ _ _ => pv 3) (fun _ _ _ _ _ => pe_lst pa_nil)) rfl)
      (pss_one (ps_for PassesOwn.never rfl (pi_enumT K (by rfl) B.enumerate (pa_cons (pe_fld (pv 0) rfl) pa_nil)) (pg_tup rfl (pgs_cons (pg_name (i := 4) nd rfl (Or.inl rfl)) (pgs_cons (pg_name (i := 5) nd rfl (Or.inl rfl)) pgs_nil)))
        (pss_one (ps_expr (pe_bm PySem.F.plainAttrs_list PySem.F.slot_list_append PySem.F.type_list_append mt_append (pe_dget hu (pe_fld (pv 0) rfl) (pv 5) (fun _ _ => rfl))
          (pa_cons (pe_tup (pa_cons (pe_op n_xor (pe_ix ix_list (pe_fld (pv 1) rfl) (pv 4) (fun _ _ => rfl)) (pe_op n_one pe_int (pv 5))) (pa_cons (pv 4) pa_nil))) pa_nil))))))))))), ?_⟩
    have ne : ∀ {a : Addr} {o : HO}, H a = some o → o ≠ .ins CO dx [] → a ≠ x := fun e h => ne_of e hx h
    have nb : b ≠ x := ne hb (by intro z; cases z)
    have nm : ml ≠ x := ne hm (by intro z; cases z)
    have nt : t ≠ x := ne ht.top (by intro z; cases z)
    have no : ot ≠ x := ne ho (by intro z; cases z)
    refine ⟨_, rfl, b, dxb, _, rfl, hb, _, rfl, iteF ?_⟩
    refine ⟨_, rfl, b, CB, dxb, _, .int (n : Int), rfl, hb, T.clB, T.nPe, book_people, _, rfl, n, ot, od, rfl, ho, hn, hod, hol, by omega, fun H1 s1 => ⟨_, rfl, iteF ?_⟩⟩
    -- self.book, self.order
    refine ⟨_, rfl, _, rfl, x, CO, dx, [], rfl, s1 _ _ hx, T.clO, T.nBo, by decide, ?_⟩
    refine ⟨_, rfl, _, rfl, x, CO, dx, _, rfl, upd_same, T.clO, T.nOr, by show 1 < 1000; decide, ?_⟩
    rw [upd_upd, put_nil, put_cons_ne (by decide +kernel), put_nil]
    generalize hH2 : upd H1 x (.ins CO dx [("book", V.ref b), ("order", V.ref ot)]) = H2
    have x2 : H2 x = some (.ins CO dx [("book", V.ref b), ("order", V.ref ot)]) := by rw [← hH2, upd_same]
    have b2 : But x H H2 := by
      rw [← hH2]
      exact fun a o h e => by rw [upd_ne h]; exact s1 _ _ e
    clear hH2
    -- self.kept_lasts
    have t2 : Rws H2 t ks := ⟨b2 _ _ nt ht.top, fun p hp => b2 _ _ (ne (ht.each p hp) (by intro z; cases z)) (ht.each p hp)⟩
    refine ⟨_, rfl, _, rfl, b, dxb, t, ml, ot, n, ks, od, rfl, b2 _ _ nb hb, t2, b2 _ _ no ho, hn, by omega, by omega, fun p hp => ⟨fun k hk => all_in hn hod hol ((hks p hp).1.1 k hk), by have := (hks p hp).2; omega, by have := (hks p hp).1.len; omega⟩,
      fun H3 l ls s3 hl lls hlast => ?_⟩
    have L : Lasts od (((rows ks).map bn).zip ls) := lasts_of (n := n) hn (fun r hr => by
      obtain ⟨p, hp, rfl⟩ := List.mem_map.mp hr
      exact ⟨(hks p hp).1, fun k hk => all_in hn hod hol ((hks p hp).1.1 k hk)⟩) (fun i r q' h1 h2 => by
      unfold rows at h1
      rw [List.getElem?_map] at h1
      obtain ⟨p, hp, rfl⟩ := Option.map_eq_some_iff.mp h1
      exact hlast i p q' hp h2)
    generalize hzs : ((rows ks).map bn).zip ls = zs at L
    have lzs : zs.length = ks.length := by
      rw [← hzs, List.length_zip, List.length_map]
      unfold rows
      rw [List.length_map, lls, Nat.min_self]
    have fzs : zs.map (·.1) = ks.map fun p => bn p.2 := by
      rw [← hzs]
      have : ((rows ks).map bn).length = ls.length := by
        unfold rows
        rw [List.length_map, List.length_map, lls]
      rw [List.map_fst_zip (by omega)]
      unfold rows
      rw [List.map_map]
      rfl
    have gzs : ∀ {i : Nat} {p : Addr × List Nat} {q' : Nat}, ks[i]? = some p → ls[i]? = some q' → zs[i]? = some (bn p.2, q') := fun {i p q'} h1 h2 => by
      rw [← hzs, List.getElem?_zip_eq_some]
      refine ⟨?_, h2⟩
      unfold rows
      rw [List.getElem?_map, List.getElem?_map, h1]
      rfl
    clear hzs
    refine ⟨_, rfl, x, CO, dx, _, rfl, s3 _ _ x2, T.clO, T.nKe, by show 2 < 1000; decide, ?_⟩
    rw [put_cons_ne (by decide +kernel), put_cons_ne (by decide +kernel), put_nil]
    have nl : l ≠ x := ne_of hl (s3 _ _ x2) (by intro z; cases z)
    generalize hH4 : upd H3 x (.ins CO dx [("book", V.ref b), ("order", V.ref ot), ("kept_lasts", V.ref l)]) = H4
    have x4 : H4 x = some (.ins CO dx [("book", V.ref b), ("order", V.ref ot), ("kept_lasts", V.ref l)]) := by rw [← hH4, upd_same]
    have b4 : But x H H4 := by
      rw [← hH4]
      exact fun a o h e => by rw [upd_ne h]; exact s3 _ _ (b2 _ _ h e)
    have l4 : H4 l = some (.tup (nums ls)) := by rw [← hH4, upd_ne nl]; exact hl
    clear hH4
    have o4 := b4 _ _ no ho
    -- self.bars
    refine ⟨_, rfl, ot, rfl, ⟨_, SqT.of o4⟩, fun D hD => ?_⟩
    refine dc_it (walk_tup (xs := nums od)) (fun i H5 => ∃ (as : List Addr) (kvs : List (Key × V)), AccK H4 D kvs H5 ∧ kvs.length ≤ i ∧ as.length = i ∧ as.Nodup ∧ (∀ a ∈ as, H4 a = none ∧ H5 a = some (.lst [])) ∧
        ∀ (j k : Nat) (a : Addr), od[j]? = some k → as[j]? = some a → valV kvs (.inl (k : Int)) = some (.ref a))
      ⟨[], [], ⟨same_new hD, upd_same⟩, Nat.le_refl _, rfl, List.nodup_nil, fun a ha => absurd ha List.not_mem_nil, fun j k a _ z => by cases z⟩ (fun i H5 _ a => by obtain ⟨as, kvs, a, _⟩ := a; exact SqT.of (a.sm _ _ o4)) (fun i y H5 H6 hi a hy => ?_) (fun H5 a => ?_)
    · obtain ⟨as, kvs, a, hkv, las, nas, has, hk⟩ := a
      obtain ⟨rfl, hy⟩ := hy
      obtain ⟨p, hp, rfl⟩ := nums_get hy
      refine ⟨rfl, _, rfl, Nat.zero_le _, fun F hF => ?_⟩
      have a2 := a.more (same_new (o := .lst []) hF)
      have nFD : F ≠ D := ne_of upd_same a2.at_ (by intro z; cases z)
      have hi' : i < od.length := by rw [nums_len] at hi; exact hi
      have nF : F ∉ as := fun z => by
        have := (has F z).2
        rw [hF] at this
        cases this
      refine ⟨kvs, .inl (p : Int), rfl, a2.at_, szl (by omega), as ++ [F], _, ⟨fun c o e => ?_, upd_same⟩, Nat.le_trans (length_putK _ _ _) (by omega), by rw [List.length_append, las]; rfl, ?_, fun c hc => ?_, fun j k c hj hc => ?_⟩
      · rw [upd_ne (ne_of_none e hD)]
        exact a2.sm c o e
      · rw [List.nodup_append]
        exact ⟨nas, List.nodup_cons.mpr ⟨List.not_mem_nil, List.nodup_nil⟩, fun u hu v hv e => nF (by rw [List.mem_singleton.mp hv] at e; rw [← e]; exact hu)⟩
      · rcases List.mem_append.mp hc with z | z
        · obtain ⟨e1, e2⟩ := has c z
          refine ⟨e1, ?_⟩
          rw [upd_ne (ne_of e2 a.at_ (by intro z; cases z)), upd_ne (ne_of_none e2 hF)]
          exact e2
        · rw [List.mem_singleton.mp z]
          refine ⟨?_, ?_⟩
          · cases e : H4 F with
            | none => rfl
            | some o =>
              have := a.sm _ _ e
              rw [hF] at this
              cases this
          · rw [upd_ne nFD, upd_same]
      · rw [valV_put]
        rcases Nat.lt_or_ge j i with z | z
        · rw [List.getElem?_append_left (by omega)] at hc
          rw [if_neg]
          · exact hk j k c hj hc
          · intro e
            have ek : k = p := Int.ofNat.inj (Sum.inl.inj e)
            subst ek
            have := nd_ix hn hj hp
            omega
        · rw [List.getElem?_append_right (by omega)] at hc
          have e0 : j - as.length = 0 := by
            rcases Nat.eq_zero_or_pos (j - as.length) with e | e
            · exact e
            · rw [List.getElem?_eq_none (by show 1 ≤ _; omega)] at hc
              cases hc
          rw [e0] at hc
          have eF : F = c := Option.some.inj hc
          have ej : j = i := by omega
          subst ej
          rw [hp] at hj
          rw [Option.some.inj hj, if_pos rfl, eF]
    · rw [nums_len] at a
      obtain ⟨as, kvs, a, hkv, las, nas, has, hk⟩ := a
      have x5 := a.sm _ _ x4
      refine ⟨_, rfl, x, CO, dx, _, rfl, x5, T.clO, T.nBa, by show 3 < 1000; decide, ?_⟩
      rw [put_cons_ne (by decide +kernel), put_cons_ne (by decide +kernel), put_cons_ne (by decide +kernel), put_nil]
      have nD : D ≠ x := ne_of a.at_ x5 (by intro z; cases z)
      generalize hH6 : upd H5 x (.ins CO dx [("book", V.ref b), ("order", V.ref ot), ("kept_lasts", V.ref l), ("bars", V.ref D)]) = H6
      have nas' : ∀ a ∈ as, a ≠ x ∧ a ≠ D ∧ a ≠ l ∧ ∀ c o, c ≠ x → H c = some o → c ≠ a := fun c hc => by
        obtain ⟨e1, e2⟩ := has c hc
        refine ⟨?_, ne_of e2 a.at_ (by intro z; cases z), ?_, fun c2 o h2 e3 z => ?_⟩
        · intro z
          rw [z, x4] at e1
          cases e1
        · intro z
          rw [z, l4] at e1
          cases e1
        · have := b4 _ _ h2 e3
          rw [z, e1] at this
          cases this
      have x6 : H6 x = some (.ins CO dx (offFs b ot l D)) := by rw [← hH6]; exact upd_same
      have b6 : But x H H6 := by
        rw [← hH6]
        exact fun c o h e => by rw [upd_ne h]; exact a.sm _ _ (b4 _ _ h e)
      have l6 : H6 l = some (.tup (nums ls)) := by rw [← hH6, upd_ne nl]; exact a.sm _ _ l4
      have d6 : H6 D = some (.dK kvs) := by rw [← hH6, upd_ne nD]; exact a.at_
      have a6 : ∀ c ∈ as, H6 c = some (.lst []) := fun c hc => by rw [← hH6, upd_ne (nas' c hc).1]; exact (has c hc).2
      clear hH6
      refine ⟨_, rfl, x, CO, dx, _, .ref l, rfl, x6, T.clO, T.nKe, off_lasts, l, nums ls, rfl, SqT.of l6, ?_⟩
      refine for_it (walk_enumT (xs := nums ls)) (fun i σ H' => ∃ v4 v5, σ = [some (.ref x), some (.ref b), some (.ref ot), none, v4, v5] ∧ (But x H H' ∧ H' x = some (.ins CO dx (offFs b ot l D)) ∧ H' l = some (.tup (nums ls)) ∧ H' D = some (.dK kvs)) ∧
          ∀ (j k : Nat) (c : Addr), od[j]? = some k → as[j]? = some c → BarL H' c (oth (zs.take i) k))
        ⟨_, _, rfl, ⟨b6, x6, l6, d6⟩, fun j k c _ hc => ⟨[], a6 c (List.mem_of_getElem? hc), fun e he => absurd he List.not_mem_nil, rfl⟩⟩ (fun i σ H' _ hp => ?_) (fun i y σ H0 H1 hi hp hy => ?_) (fun σ H7 hp => ?_)
      · obtain ⟨_, _, _, ⟨_, _, e, _⟩, _⟩ := hp
        exact SqT.of e
      · obtain ⟨v4, v5, rfl, ⟨f1, f2, f3, f4⟩, fb⟩ := hp
        obtain ⟨T1, x1, y1, rfl, hT1, rfl, e1, e2⟩ := hy
        obtain ⟨p, hp, rfl⟩ := nums_get e2
        have e1' : x1 = .int (i : Int) := (Option.some.inj e1).symm
        subst e1'
        have hi' : i < ls.length := by rw [nums_len] at hi; exact hi
        obtain ⟨r, hr1⟩ : ∃ r, ks[i]? = some r := ⟨_, List.getElem?_eq_getElem (by omega)⟩
        have il := hlast i r p hr1 hp
        have hrm := hks r (List.mem_of_getElem? hr1)
        have pn : p < n := hrm.1.1 p il.1
        have pod := all_in hn hod hol pn
        have zi := gzs hr1 hp
        have j0l : od.idxOf p < od.length := List.idxOf_lt_length_of_mem pod
        obtain ⟨c0, hc0⟩ : ∃ c, as[od.idxOf p]? = some c := ⟨_, List.getElem?_eq_getElem (by omega)⟩
        have c0m := List.mem_of_getElem? hc0
        have s1 : Same H0 (upd H0 T1 (.tup [.int (i : Int), .int (p : Int)])) := same_new hT1
        refine ⟨T1, [.int (i : Int), .int (p : Int)], rfl, SqT.of upd_same, rfl, _, [.int (p : Int)], rfl, _, [], rfl, rfl, ?_⟩
        generalize upd H0 T1 (.tup [.int (i : Int), .int (p : Int)]) = H8 at s1
        obtain ⟨es, g1, g2, g3⟩ := (fb _ p c0 (at_idx pod) hc0).same s1
        have les : es.length ≤ 57 := by
          have z := congrArg List.length g3
          rw [List.length_map] at z
          unfold oth at z
          rw [List.length_map] at z
          have z2 := List.length_filter_le (fun z : Nat × Nat => decide (z.2 = p)) (zs.take i)
          rw [List.length_take] at z2
          omega
        have dp : DGet H8 D (.int (p : Int)) (some (.ref c0)) := by
          have g := DGet.k (k := .inl (p : Int)) (s1 _ _ f4)
          rw [hk _ p c0 (at_idx pod) hc0] at g
          exact g
        refine ⟨_, rfl, x, CO, dx, _, .ref D, rfl, s1 _ _ f2, T.clO, T.nBa, off_bars, _, rfl, D, .ref c0, rfl, dp, .inl ⟨rfl, _, SqL.of g1⟩, ?_⟩
        refine ⟨_, rfl, b, CB, dxb, _, .ref ml, rfl, s1 _ _ (f1 _ _ nb hb), T.clB, T.nMa, book_masks, _, rfl, ml, maskV ks, (i : Int), .int ((bn r.2 : Nat) : Int), rfl, rfl, SqL.of (s1 _ _ (f1 _ _ nm hm)), at_of (j := i) (by omega) ?_, _, rfl, p, rfl, rfl, by omega, bn r.2, 2 ^ p, rfl, rfl, _, rfl, by show 2 ≤ sizeLine; decide, fun T2 hT2 => ?_⟩
        · unfold maskV
          rw [List.getElem?_map, hr1]
          rfl
        have s2 : Same H8 (upd H8 T2 (.tup [V.int ((bn r.2 ^^^ 2 ^ p : Nat) : Int), V.int (i : Int)])) := same_new hT2
        have tT : upd H8 T2 (.tup [V.int ((bn r.2 ^^^ 2 ^ p : Nat) : Int), V.int (i : Int)]) T2 = some (.tup [V.int ((bn r.2 ^^^ 2 ^ p : Nat) : Int), V.int (i : Int)]) := upd_same
        generalize upd H8 T2 (.tup [V.int ((bn r.2 ^^^ 2 ^ p : Nat) : Int), V.int (i : Int)]) = H9 at s2 tT
        have s3 := s1.trans s2
        obtain ⟨m1, m2, m3, m4⟩ := nas' c0 c0m
        have kp : ∀ {c : Addr} {o : HO}, c ≠ c0 → H0 c = some o → ∀ l, upd H9 c0 (.lst l) c = some o := fun {c o} h e l => by rw [upd_ne h]; exact s3 _ _ e
        refine ⟨c0, _, _, rfl, rfl, s2 _ _ g1, by rw [List.length_map]; exact szl (by omega), _, _, rfl, ⟨fun c o h e => kp (m4 c o h e) (f1 _ _ h e) _, kp (fun z => m1 z.symm) f2 _, kp (fun z => m3 z.symm) f3 _, kp (fun z => m2 z.symm) f4 _⟩, fun j k c hj hc => ?_⟩
        rw [oth_more zi]
        by_cases e : p = k
        · subst e
          have ej : od.idxOf p = j := idx_at hn hj
          rw [ej, hc] at hc0
          have ec : c = c0 := Option.some.inj hc0
          subst ec
          rw [if_pos rfl]
          refine ⟨es ++ [(T2, bn r.2 ^^^ 2 ^ p, i)], ?_, fun e he => ?_, ?_⟩
          · rw [upd_same, List.map_append]
            rfl
          · rcases List.mem_append.mp he with z | z
            · have g := s2 _ _ (g2 e z)
              rw [upd_ne (ne_of g (s2 _ _ g1) (by intro z; cases z))]
              exact g
            · rw [List.mem_singleton.mp z, upd_ne (ne_of tT (s2 _ _ g1) (by intro z; cases z))]
              exact tT
          · rw [List.map_append, g3]
            rfl
        · rw [if_neg e, List.append_nil]
          have nc : c ≠ c0 := fun z => by
            subst z
            have : j = od.idxOf p := nd_ix nas hc hc0
            subst this
            rw [at_idx pod] at hj
            exact e (Option.some.inj hj)
          obtain ⟨es', g1', g2', g3'⟩ := fb j k c hj hc
          exact ⟨es', kp nc g1' _, fun u hu => kp (ne_of (g2' u hu) (by exact (fb _ p c0 (at_idx pod) hc0).choose_spec.1) (by intro z; cases z)) (g2' u hu) _, g3'⟩
      · obtain ⟨_, _, rfl, ⟨f1, f2, f3, f4⟩, fb⟩ := hp
        refine q H7 zs f1 ⟨b, t, ml, ot, l, D, dx, dxb, kvs, f2, f1 _ _ nb hb, f1 _ _ no ho, f4, fun k hk1 => ?_⟩ L fzs
        obtain ⟨j, hj, ej⟩ := List.mem_iff_getElem.mp hk1
        have e1 : od[j]? = some k := by rw [List.getElem?_eq_getElem hj, ej]
        obtain ⟨c, hc⟩ : ∃ c, as[j]? = some c := ⟨_, List.getElem?_eq_getElem (by omega)⟩
        have := fb j k c e1 hc
        rw [nums_len, List.take_of_length_le (by omega)] at this
        exact ⟨c, hk j k c e1 hc, this⟩
end
end Lk
/-! Who is barred; who is in; looks. -/
namespace Lk
open PySem PySem.Spec PyProof.Rows L2 C8
theorem Off.people {CB CO : Addr} {H : Hp} {o : Addr} {n : Nat} {od : List Nat} {zs : List (Nat × Nat)} (h : Off CB CO H o n od zs) : ∃ dxo b dxb t ml fs, H o = some (.ins CO dxo (("book", .ref b) :: fs)) ∧ H b = some (.ins CB dxb (bookFs n t ml)) := by
  obtain ⟨b, t, ml, ot, l, d, dxo, dxb, kvs, h⟩ := h
  exact ⟨dxo, b, dxb, t, ml, _, h.at_, h.bk⟩
theorem look_lt {zs : List (Nat × Nat)} {n s p : Nat} (hs : s < 2 ^ n) (hp : p < n) : look zs s p < 2 ^ n := by
  unfold look
  by_cases h : bar zs s p = true
  · rw [if_pos h]
    exact Nat.lt_of_le_of_lt Nat.and_le_left hs
  · rw [if_neg h]
    exact Nat.or_lt_two_pow hs (Nat.pow_lt_pow_right (by decide) hp)
theorem inb_lt {zs : List (Nat × Nat)} {od : List Nat} {c n : Nat} (ho : ∀ k ∈ od, k < n) : inb zs od c < 2 ^ n := by
  have : ∀ (l : List Nat) (f : Nat), (∀ k ∈ l, k < n) → f < 2 ^ n → l.foldl (step zs c) f < 2 ^ n := by
    intro l
    induction l with
    | nil => exact fun f _ h => h
    | cons p l ih =>
      intro f hl hf
      refine ih _ (fun k hk => hl k (List.mem_cons_of_mem _ hk)) ?_
      unfold step
      split
      · exact Nat.or_lt_two_pow hf (Nat.pow_lt_pow_right (by decide) (hl p List.mem_cons_self))
      · exact hf
  exact this od 0 ho (Nat.two_pow_pos n)
theorem fold_more {α β : Type} {f : β → α → β} {b : β} {xs : List α} {i : Nat} {x : α} (h : xs[i]? = some x) : (xs.take (i + 1)).foldl f b = f ((xs.take i).foldl f b) x := by
  rw [List.take_add_one, h, List.foldl_append]
  rfl
section
variable {P : Program} {w : World} {K : PySem.W.Frag} {mg : Str → Option Value} {base : Heap} {CB CO : Addr}
def spBarred (CB CO : Addr) : Sp := fun vs H Q _ => ∃ (o : Addr) (s p n : Nat) (od : List Nat) (zs : List (Nat × Nat)), vs = [.ref o, .int (s : Int), .int (p : Int)] ∧ Off CB CO H o n od zs ∧ p ∈ od ∧ zs.length ≤ 57 ∧ ∀ H', Same H H' → Q (.bl (bar zs s p)) H'
abbrev nBarred : List Str := ["office", "inside", "person", "others", "number"]
theorem ok_is_barred (B : Bi mg) (T : ClF K mg CB CO) (h : Has K mg "is_barred" (topS 30) ["office", "inside", "person"]) (c1 : Cal P w K mg base 1 "holds" spHolds []) : Cal P w K mg base 2 "is_barred" (spBarred CB CO) [] := by
  refine cal_of (N := nBarred) h (by decide +kernel) (fun vs H Q E h => ?_) (fun nd f cdv A outer s H vs Q E hr h => ?_)
  · obtain ⟨o, s, p, n, od, zs, rfl, _⟩ := h
    rfl
  · obtain ⟨o, s, p, n, od, zs, rfl, hO, hp, hz, q⟩ := h
    have hu := hu_of hr
    refine ⟨_, pss_one (ps_ret (pe_callB (cr_any rfl) (by rfl) B.any (by decide +kernel) (pa_cons (pe_lc (own := [("others", 3), ("number", 4)]) (tt := tYes) rfl nd (piL K (pe_dget hu (pe_fld (pv 0) rfl) (pv 2) (fun _ _ => rfl)))
      (blkOk_by (own := [("others", 3), ("number", 4)]) (N := nBarred) (sc := fnScope (topS 30)) (by decide +kernel))
      (fun _ _ _ _ _ => pg_tupK (n := 2) K rfl (pgs_cons (pg_name (i := 3) nd rfl (Or.inl rfl)) (pgs_cons (pg_name (i := 4) nd rfl (Or.inl rfl)) pgs_nil))) (fun _ _ _ _ _ => pts_nil)
      (fun _ _ _ _ _ => pe_c c1 hr (by decide) (by rfl) (pa_cons (pv 1) (pa_cons (pv 3) pa_nil)))) pa_nil))), ?_⟩
    obtain ⟨b, t, ml, ot, l, d, dxo, dxb, kvs, hO⟩ := hO
    obtain ⟨a, ha, es, h1, h2, h3⟩ := hO.bars p hp
    have les : es.length ≤ 57 := by
      have z := congrArg List.length h3
      rw [List.length_map] at z
      unfold oth at z
      rw [List.length_map] at z
      have z2 := List.length_filter_le (fun z : Nat × Nat => decide (z.2 = p)) zs
      omega
    have dp : DGet H d (.int (p : Int)) (some (.ref a)) := by
      have g := DGet.k (k := .inl (p : Int)) hO.dk
      rw [ha] at g
      exact g
    refine ⟨_, rfl, o, CO, dxo, _, .ref d, rfl, hO.at_, T.clO, T.nBa, off_bars, _, rfl, d, .ref a, rfl, dp, a, rfl, ⟨_, SqL.of h1⟩, fun D hD => ?_⟩
    refine lc_it (walk_list (xs := es.map fun e => V.ref e.1)) (fun i H2 => Acc H D ((es.take i).map fun e => V.bl (decide (s &&& e.2.1 = e.2.1))) H2) (acc_nil hD) (fun _ _ _ a => SqL.of (a.sm _ _ h1)) (fun i y H0 H1 hi a hy => ?_) (fun H1 a => ?_)
    · obtain ⟨rfl, hy⟩ := hy
      rw [List.getElem?_map] at hy
      obtain ⟨e, he, rfl⟩ := Option.map_eq_some_iff.mp hy
      have te := a.sm _ _ (h2 e (List.mem_of_getElem? he))
      refine ⟨e.1, _, rfl, SqT.of te, rfl, _, [.int (e.2.2 : Int)], rfl, _, [], rfl, rfl, ?_⟩
      refine ⟨rfl, _, rfl, _, rfl, s, e.2.1, rfl, ?_⟩
      refine a.put hD (by rw [List.length_map, List.length_take]; omega) ?_
      rw [take_more _ he]
    · rw [List.length_map, List.take_length] at a
      refine ⟨D, es.map fun e => decide (s &&& e.2.1 = e.2.1), rfl, SqL.of (by rw [a.at_, List.map_map]; rfl), ?_⟩
      have z : (es.map fun e => decide (s &&& e.2.1 = e.2.1)).any id = bar zs s p := by
        unfold bar
        rw [← h3, List.any_map, List.any_map]
        rfl
      rw [z]
      exact q _ a.sm
def spInBits (CB CO : Addr) : Sp := fun vs H Q _ => ∃ (o : Addr) (c n : Nat) (od : List Nat) (zs : List (Nat × Nat)), vs = [.ref o, .int (c : Int)] ∧ Off CB CO H o n od zs ∧ zs.length ≤ 57 ∧ (∀ k ∈ od, k ≤ 1000) ∧ ∀ H', Same H H' → Q (.int ((inb zs od c : Nat) : Int)) H'
abbrev nInBits : List Str := ["office", "bits", "found", "person"]
theorem ok_in_bits (T : ClF K mg CB CO) (h : Has K mg "in_bits" (topS 31) ["office", "bits"]) (c1 : Cal P w K mg base 2 "is_barred" (spBarred CB CO) []) : Cal P w K mg base 3 "in_bits" (spInBits CB CO) [] := by
  refine cal_of (N := nInBits) h (by decide +kernel) (fun vs H Q E h => ?_) (fun nd f cdv A outer s H vs Q E hr h => ?_)
  · obtain ⟨o, c, n, od, zs, rfl, _⟩ := h
    rfl
  · obtain ⟨o, c, n, od, zs, rfl, hO, hz, h1000, q⟩ := h
    refine ⟨_, pss_cons (ps_set (i := 2) nd rfl (Or.inl rfl) pe_int) (pss_cons (ps_for PassesOwn.never rfl (pi_tup (pe_fld (pv 0) rfl)) (pg_name (i := 3) nd rfl (Or.inl rfl))
        (pss_one (ps_if (PW.pt (pw_and (pt_cmpR op_eq (pe_op n_and (pe_op n_shr (pv 1) (pv 3)) pe_int) pe_int (nomark _)) (pw_and1 (pt_not (pt_val (pe_c c1 hr (by decide) (by rfl) (pa_cons (pv 0) (pa_cons (pv 2) (pa_cons (pv 3) pa_nil)))))))))
          (pss_one (ps_set (i := 2) nd rfl (Or.inl rfl) (pe_op n_or (pv 2) (pe_op n_one pe_int (pv 3))))) pss_nil)))
      (pss_one (ps_ret (pv 2)))), ?_⟩
    obtain ⟨b, t, ml, ot, l, d, dxo, dxb, kvs, hD⟩ := id hO
    refine ⟨_, rfl, o, CO, dxo, _, .ref ot, rfl, hD.at_, T.clO, T.nOr, off_order, ot, rfl, ⟨_, SqT.of hD.or⟩, ?_⟩
    refine for_it (walk_tup (xs := nums od)) (fun i σ H' => ∃ v3, σ = [some (.ref o), some (.int (c : Int)), some (.int (((od.take i).foldl (step zs c) 0 : Nat) : Int)), v3] ∧ Same H H')
      ⟨_, rfl, fun _ _ e => e⟩ (fun i σ H' _ hp => ?_) (fun i x σ H0 H1 hi hp hy => ?_) (fun σ H1 hp => ?_)
    · obtain ⟨_, rfl, s1⟩ := hp
      exact SqT.of (s1 _ _ hD.or)
    · obtain ⟨v3, rfl, s1⟩ := hp
      obtain ⟨rfl, hx⟩ := hy
      obtain ⟨p, hp, rfl⟩ := nums_get hx
      have pm := List.mem_of_getElem? hp
      refine ⟨_, rfl, _, rfl, c, p, rfl, rfl, _, 1, rfl, rfl, rfl, _, rfl, ?_⟩
      have e : decide (V.int ((c / 2 ^ p &&& 1 : Nat) : Int) = V.int 1) = c.testBit p := bit_dec c p
      rw [e, fold_more hp]
      generalize (od.take i).foldl (step zs c) 0 = F
      generalize hv : step zs c F p = W
      unfold step at hv
      cases hb : c.testBit p with
      | false =>
        rw [hb] at hv
        have hv : F = W := hv
        subst hv
        exact iteF ⟨_, rfl, s1⟩
      | true =>
        refine iteT ⟨_, rfl, _, rfl, _, rfl, o, F, p, n, od, zs, rfl, hO.same s1, pm, hz, fun H2 s2 => ⟨_, rfl, ?_⟩⟩
        rw [hb] at hv
        cases hr2 : bar zs F p with
        | true =>
          rw [hr2] at hv
          have hv : F = W := hv
          subst hv
          exact iteF ⟨_, rfl, s1.trans s2⟩
        | false =>
          rw [hr2] at hv
          have hv : F ||| 2 ^ p = W := hv
          subst hv
          exact iteT ⟨_, rfl, _, rfl, p, rfl, rfl, h1000 p pm, F, 2 ^ p, rfl, rfl, _, rfl, s1.trans s2⟩
    · obtain ⟨_, rfl, s1⟩ := hp
      rw [nums_len, List.take_length]
      exact ⟨_, rfl, q _ s1⟩
end
end Lk
/-! Who is let in; looks. -/
namespace Lk
open PySem PySem.Spec PyProof.Rows L2 C8
section
variable {P : Program} {w : World} {K : PySem.W.Frag} {mg : Str → Option Value} {base : Heap} {CB CO : Addr}
/-- office.book.people -/
theorem peo {H : Hp} {Q : VK} {o : Addr} {n : Nat} {od : List Nat} {zs : List (Nat × Nat)} (T : ClF K mg CB CO) (h : Off CB CO H o n od zs) (q : Q (.int (n : Int)) H) {ta : TE} {σ : L2.St} (ht : ∀ Q' : VK, Q' (.ref o) H → ta σ H Q') : tFld K (tFld K ta "book") "people" σ H Q := by
  obtain ⟨b, t, ml, ot, l, d, dxo, dxb, kvs, hD⟩ := h
  exact ht _ ⟨o, CO, dxo, _, .ref b, rfl, hD.at_, T.clO, T.nBo, off_book, b, CB, dxb, _, .int (n : Int), rfl, hD.bk, T.clB, T.nPe, book_people, q⟩
def spLetIn (CB CO : Addr) : Sp := fun vs H Q _ => ∃ (o ct n : Nat) (od : List Nat) (zs : List (Nat × Nat)) (cs : List Nat), vs = [.ref o, .ref ct] ∧ Off CB CO H o n od zs ∧ zs.length ≤ 57 ∧ (∀ k ∈ od, k < n) ∧ n ≤ 12 ∧ H ct = some (.tup (nums cs)) ∧ Cr n cs ∧
  ∀ H' p, Same H H' → H' p = some (.tup (nums (cr (inb zs od (bn cs))))) → Q (.ref p) H'
theorem ok_let_in (T : ClF K mg CB CO) (h : Has K mg "let_in" (topS 32) ["office", "crowd"]) (c1 : Cal P w K mg base 5 "check_crowd" spCheck []) (c2 : Cal P w K mg base 1 "bits_of" spBitsOf []) (c3 : Cal P w K mg base 3 "in_bits" (spInBits CB CO) []) (c4 : Cal P w K mg base 1 "crowd_of" spCrowdOf []) :
    Cal P w K mg base 6 "let_in" (spLetIn CB CO) [] := by
  refine cal_of (N := ["office", "crowd"]) h (by decide +kernel) (fun vs H Q E h => ?_) (fun nd f cdv A outer s H vs Q E hr h => ?_)
  · obtain ⟨o, ct, n, od, zs, cs, rfl, _⟩ := h
    rfl
  · obtain ⟨o, ct, n, od, zs, cs, rfl, hO, hz, ho, hn, hc, hcr, q⟩ := h
    refine ⟨_, pss_cons (ps_expr (pe_c c1 hr (by decide) (by rfl) (pa_cons (pe_fld (pe_fld (pv 0) rfl) rfl) (pa_cons (pv 1) pa_nil))))
      (pss_one (ps_ret (pe_c c4 hr (by decide) (by rfl) (pa_cons (pe_c c3 hr (by decide) (by rfl) (pa_cons (pv 0) (pa_cons (pe_c c2 hr (by decide) (by rfl) (pa_cons (pv 1) pa_nil)) pa_nil))) pa_nil)))), ?_⟩
    refine peo T hO ?_ (fun Q' h => ⟨_, rfl, h⟩)
    refine ⟨_, rfl, n, ct, cs, rfl, hc, hcr, Nat.le_trans hcr.len (by omega), fun H1 s1 => ?_⟩
    refine ⟨_, rfl, _, rfl, ct, cs, rfl, s1 _ _ hc, Nat.le_trans hcr.len (by omega), fun k hk => Nat.le_trans (Nat.le_of_lt (hcr.1 k hk)) (by omega), fun H2 s2 => ?_⟩
    refine ⟨o, bn cs, n, od, zs, rfl, (hO.same s1).same s2, hz, fun k hk => Nat.le_trans (Nat.le_of_lt (ho k hk)) (by omega), fun H3 s3 => ?_⟩
    exact ⟨_, rfl, Nat.lt_of_lt_of_le (inb_lt ho) (Nat.pow_le_pow_right (by decide) hn : 2 ^ n ≤ 2 ^ 12), fun H4 p s4 hp => q H4 p (((s1.trans s2).trans s3).trans s4) hp⟩
def spLookBits (CB CO : Addr) : Sp := fun vs H Q _ => ∃ (o s p n : Nat) (od : List Nat) (zs : List (Nat × Nat)), vs = [.ref o, .int (s : Int), .int (p : Int)] ∧ Off CB CO H o n od zs ∧ zs.length ≤ 57 ∧ p ∈ od ∧ p ≤ 1000 ∧
  ∀ H', Same H H' → Q (.int ((look zs s p : Nat) : Int)) H'
theorem ok_look_bits (T : ClF K mg CB CO) (h : Has K mg "look_bits" (topS 35) ["office", "state", "person"]) (c1 : Cal P w K mg base 2 "is_barred" (spBarred CB CO) []) : Cal P w K mg base 3 "look_bits" (spLookBits CB CO) [] := by
  refine cal_of (N := ["office", "state", "person", "alone"]) h (by decide +kernel) (fun vs H Q E h => ?_) (fun nd f cdv A outer s H vs Q E hr h => ?_)
  · obtain ⟨o, s, p, n, od, zs, rfl, _⟩ := h
    rfl
  · obtain ⟨o, s, p, n, od, zs, rfl, hO, hz, hp, hp1, q⟩ := h
    refine ⟨_, pss_cons (ps_set (i := 3) nd rfl (Or.inl rfl) (pe_op n_one pe_int (pv 2)))
      (pss_one (ps_ret (pe_ifExp (pt_val (pe_c c1 hr (by decide) (by rfl) (pa_cons (pv 0) (pa_cons (pv 1) (pa_cons (pv 2) pa_nil))))) (pe_op n_and (pv 1) (pe_op n_xor (pv 1) (pv 3))) (pe_op n_or (pv 1) (pv 3))))), ?_⟩
    refine ⟨_, rfl, p, rfl, rfl, hp1, _, rfl, _, rfl, _, rfl, o, s, p, n, od, zs, rfl, hO, hp, hz, fun H1 s1 => ⟨_, rfl, ?_⟩⟩
    have q := q H1 s1
    unfold look at q
    cases hb : bar zs s p with
    | true =>
      rw [hb] at q
      exact iteT ⟨_, rfl, _, rfl, _, rfl, s, 2 ^ p, rfl, rfl, s, s ^^^ 2 ^ p, rfl, rfl, q⟩
    | false =>
      rw [hb] at q
      exact iteF ⟨_, rfl, _, rfl, s, 2 ^ p, rfl, rfl, q⟩
/-- a crowd within a crowd -/
def Wi (n : Nat) (cs : List Nat) (xs : List V) : Prop := ∃ ns : List Nat, xs = nums ns ∧ Cr n ns ∧ bn cs &&& bn ns = bn ns
def spIsState : Sp := fun vs H Q _ => ∃ (n ct : Nat) (cs : List Nat) (x : V), vs = [.int (n : Int), .ref ct, x] ∧ H ct = some (.tup (nums cs)) ∧ Cr n cs ∧ n ≤ 12 ∧
  ((∃ t xs, x = .ref t ∧ H t = some (.tup xs) ∧ xs.length ≤ 1000 ∧ (∀ y ∈ xs, Thg H y) ∧ ∀ H' b, Same H H' → (b = true ↔ Wi n cs xs) → Q (.bl b) H') ∨ (Nt H x ∧ Q (.bl false) H))
theorem ok_is_state (h : Has K mg "is_state" (topS 36) ["people", "crowd", "thing"]) (c1 : Cal P w K mg base 4 "is_crowd" (spOfThing Cw) []) (c2 : Cal P w K mg base 1 "bits_of" spBitsOf []) (c3 : Cal P w K mg base 1 "holds" spHolds []) : Cal P w K mg base 5 "is_state" spIsState [] := by
  refine cal_of (N := ["people", "crowd", "thing"]) h (by decide +kernel) (fun vs H Q E h => ?_) (fun nd f cdv A outer s H vs Q E hr h => ?_)
  · obtain ⟨n, ct, cs, x, rfl, _⟩ := h
    rfl
  · obtain ⟨n, ct, cs, x, rfl, hc, hcr, hn, h⟩ := h
    refine ⟨_, pss_one (ps_ret (pe_and (pe_c c1 hr (by decide) (by rfl) (pa_cons (pv 0) (pa_cons (pv 2) pa_nil)))
      (pe_one (pe_c c3 hr (by decide) (by rfl) (pa_cons (pe_c c2 hr (by decide) (by rfl) (pa_cons (pv 1) pa_nil)) (pa_cons (pe_c c2 hr (by decide) (by rfl) (pa_cons (pv 2) pa_nil)) pa_nil)))))), ?_⟩
    have sm : ∀ {m : Nat} {l : List Nat}, m ≤ 12 → Cr m l → l.length ≤ 1000 ∧ ∀ k ∈ l, k ≤ 1000 := fun h c => ⟨Nat.le_trans c.len (by omega), fun k hk => Nat.le_trans (Nat.le_of_lt (c.1 k hk)) (by omega)⟩
    rcases h with ⟨t, xs, rfl, ht, hz, hx, q⟩ | ⟨hnt, q⟩
    · refine ⟨_, rfl, _, rfl, n, _, rfl, .inl ⟨t, xs, rfl, ht, hz, hx, fun H1 b s1 hb => ⟨_, rfl, ?_⟩⟩⟩
      cases b with
      | false => exact iteF (q H1 false s1 ⟨(fun z => nomatch z), fun ⟨ns, e, c, _⟩ => (Bool.false_ne_true (hb.mpr ⟨ns, e, c⟩)).elim⟩)
      | true =>
        obtain ⟨ns, rfl, c⟩ := hb.mp rfl
        refine iteT ⟨_, rfl, ct, cs, rfl, s1 _ _ hc, (sm hn hcr).1, (sm hn hcr).2, fun H2 s2 => ?_⟩
        refine ⟨_, rfl, t, ns, rfl, s2 _ _ (s1 _ _ ht), (sm hn c).1, (sm hn c).2, fun H3 s3 => ?_⟩
        refine ⟨bn cs, bn ns, rfl, q H3 _ ((s1.trans s2).trans s3) ?_⟩
        rw [decide_eq_true_eq]
        refine ⟨fun e => ⟨ns, rfl, c, e⟩, fun ⟨ms, e, _, e2⟩ => ?_⟩
        rw [nums_inj e]
        exact e2
    · exact ⟨_, rfl, _, rfl, n, x, rfl, .inr ⟨hnt, _, rfl, iteF q⟩⟩
def spCheckState (CB CO : Addr) : Sp := fun vs H Q _ => ∃ (o ct st n : Nat) (od : List Nat) (zs : List (Nat × Nat)) (cs ss : List Nat), vs = [.ref o, .ref ct, .ref st] ∧ Off CB CO H o n od zs ∧ n ≤ 12 ∧ H ct = some (.tup (nums cs)) ∧ Cr n cs ∧ H st = some (.tup (nums ss)) ∧ Cr n ss ∧
  bn cs &&& bn ss = bn ss ∧ ∀ H', Same H H' → Q .non H'
theorem ok_check_state (T : ClF K mg CB CO) (h : Has K mg "check_state" (topS 37) ["office", "crowd", "state"]) (c1 : Cal P w K mg base 5 "check_crowd" spCheck []) (c2 : Cal P w K mg base 5 "is_state" spIsState []) : Cal P w K mg base 6 "check_state" (spCheckState CB CO) [] := by
  refine cal_of (N := ["office", "crowd", "state"]) h (by decide +kernel) (fun vs H Q E h => ?_) (fun nd f cdv A outer s H vs Q E hr h => ?_)
  · obtain ⟨o, ct, st, n, od, zs, cs, ss, rfl, _⟩ := h
    rfl
  · obtain ⟨o, ct, st, n, od, zs, cs, ss, rfl, hO, hn, hc, hcr, hs, hsr, hw, q⟩ := h
    refine ⟨_, pss_cons (ps_expr (pe_c c1 hr (by decide) (by rfl) (pa_cons (pe_fld (pe_fld (pv 0) rfl) rfl) (pa_cons (pv 1) pa_nil))))
      (pss_one (ps_if (pt_not (pt_val (pe_c c2 hr (by decide) (by rfl) (pa_cons (pe_fld (pe_fld (pv 0) rfl) rfl) (pa_cons (pv 1) (pa_cons (pv 2) pa_nil)))))) pss_never pss_nil)), ?_⟩
    refine peo T hO ?_ (fun Q' h => ⟨_, rfl, h⟩)
    refine ⟨_, rfl, n, ct, cs, rfl, hc, hcr, Nat.le_trans hcr.len (by omega), fun H1 s1 => ?_⟩
    obtain ⟨b, t, ml, ot, l, d, dxo, dxb, kvs, hD⟩ := id hO
    refine ⟨_, rfl, o, CO, dxo, _, .ref b, rfl, s1 _ _ hD.at_, T.clO, T.nBo, off_book, b, CB, dxb, _, .int (n : Int), rfl, s1 _ _ hD.bk, T.clB, T.nPe, book_people, _, rfl, _, rfl, n, ct, cs, _, rfl, s1 _ _ hc, hcr, hn, .inl ⟨st, _, rfl, s1 _ _ hs, by rw [nums_len]; exact Nat.le_trans hsr.len (by omega), nums_thg _ _, fun H2 b s2 hb => ⟨_, rfl, ?_⟩⟩⟩
    rw [hb.mpr ⟨ss, rfl, hsr, hw⟩]
    exact iteF (q H2 (s1.trans s2))
def spLooked (CB CO : Addr) : Sp := fun vs H Q _ => ∃ (o ct st p n : Nat) (od : List Nat) (zs : List (Nat × Nat)) (cs ss : List Nat), vs = [.ref o, .ref ct, .ref st, .int (p : Int)] ∧ Off CB CO H o n od zs ∧ zs.length ≤ 57 ∧ n ≤ 12 ∧ H ct = some (.tup (nums cs)) ∧ Cr n cs ∧
  H st = some (.tup (nums ss)) ∧ Cr n ss ∧ bn cs &&& bn ss = bn ss ∧ p ∈ cs ∧ p ∈ od ∧ ∀ H' r, Same H H' → H' r = some (.tup (nums (cr (look zs (bn ss) p)))) → Q (.ref r) H'
theorem ok_looked (T : ClF K mg CB CO) (h : Has K mg "looked" (topS 38) ["office", "crowd", "state", "person"]) (c1 : Cal P w K mg base 6 "check_state" (spCheckState CB CO) []) (c2 : Cal P w K mg base 2 "check_member" spMember []) (c3 : Cal P w K mg base 1 "bits_of" spBitsOf [])
    (c4 : Cal P w K mg base 3 "look_bits" (spLookBits CB CO) []) (c5 : Cal P w K mg base 1 "crowd_of" spCrowdOf []) : Cal P w K mg base 7 "looked" (spLooked CB CO) [] := by
  refine cal_of (N := ["office", "crowd", "state", "person"]) h (by decide +kernel) (fun vs H Q E h => ?_) (fun nd f cdv A outer s H vs Q E hr h => ?_)
  · obtain ⟨o, ct, st, p, n, od, zs, cs, ss, rfl, _⟩ := h
    rfl
  · obtain ⟨o, ct, st, p, n, od, zs, cs, ss, rfl, hO, hz, hn, hc, hcr, hs, hsr, hw, hp, hpo, q⟩ := h
    refine ⟨_, pss_cons (ps_expr (pe_c c1 hr (by decide) (by rfl) (pa_cons (pv 0) (pa_cons (pv 1) (pa_cons (pv 2) pa_nil)))))
      (pss_cons (ps_expr (pe_c c2 hr (by decide) (by rfl) (pa_cons (pv 1) (pa_cons (pv 3) pa_nil))))
      (pss_one (ps_ret (pe_c c5 hr (by decide) (by rfl) (pa_cons (pe_c c4 hr (by decide) (by rfl) (pa_cons (pv 0) (pa_cons (pe_c c3 hr (by decide) (by rfl) (pa_cons (pv 2) pa_nil)) (pa_cons (pv 3) pa_nil)))) pa_nil))))), ?_⟩
    refine ⟨_, rfl, _, rfl, _, rfl, o, ct, st, n, od, zs, cs, ss, rfl, hO, hn, hc, hcr, hs, hsr, hw, fun H1 s1 => ?_⟩
    refine ⟨_, rfl, _, rfl, ct, cs, p, rfl, s1 _ _ hc, hp, ?_⟩
    refine ⟨_, rfl, _, rfl, st, ss, rfl, s1 _ _ hs, Nat.le_trans hsr.len (by omega), fun k hk => Nat.le_trans (Nat.le_of_lt (hsr.1 k hk)) (by omega), fun H2 s2 => ?_⟩
    have pn := hcr.1 p hp
    refine ⟨_, rfl, o, bn ss, p, n, od, zs, rfl, (hO.same s1).same s2, hz, hpo, by omega, fun H3 s3 => ?_⟩
    exact ⟨_, rfl, Nat.lt_of_lt_of_le (look_lt (bn_lt hsr) pn) (Nat.pow_le_pow_right (by decide) hn : 2 ^ n ≤ 2 ^ 12), fun H4 r s4 hr => q H4 r (((s1.trans s2).trans s3).trans s4) hr⟩
end
end Lk
/-! Rows of looks; quiet states. -/
namespace Lk
open PySem PySem.Spec PyProof.Rows L2 C8
section
variable {P : Program} {w : World} {K : PySem.W.Frag} {mg : Str → Option Value} {base : Heap} {CB CO : Addr}
theorem looks_lt {zs : List (Nat × Nat)} {n : Nat} : ∀ {row : List Nat} {s : Nat}, (∀ p ∈ row, p < n) → s < 2 ^ n → looks zs s row < 2 ^ n
  | [], _, _, h => h
  | p :: r, s, hr, h => looks_lt (row := r) (s := look zs s p) (fun q hq => hr q (List.mem_cons_of_mem _ hq)) (look_lt h (hr p List.mem_cons_self))
def spThrough (CB CO : Addr) : Sp := fun vs H Q _ => ∃ (o ct st rt n : Nat) (od : List Nat) (zs : List (Nat × Nat)) (cs ss rs : List Nat), vs = [.ref o, .ref ct, .ref st, .ref rt] ∧ Off CB CO H o n od zs ∧ zs.length ≤ 57 ∧ n ≤ 12 ∧ H ct = some (.tup (nums cs)) ∧ Cr n cs ∧
  H st = some (.tup (nums ss)) ∧ Cr n ss ∧ bn cs &&& bn ss = bn ss ∧ H rt = some (.tup (nums rs)) ∧ (∀ p ∈ rs, p ∈ cs) ∧ rs.length ≤ 200 ∧ (∀ p ∈ cs, p ∈ od) ∧ ∀ H' r, Same H H' → H' r = some (.tup (nums (cr (looks zs (bn ss) rs)))) → Q (.ref r) H'
abbrev nThrough : List Str := ["office", "crowd", "state", "row", "bits", "person", "one"]
theorem ok_through (B : Bi mg) (T : ClF K mg CB CO) (h : Has K mg "looked_through" (topS 39) ["office", "crowd", "state", "row"]) (c1 : Cal P w K mg base 6 "check_state" (spCheckState CB CO) []) (c2 : Cal P w K mg base 3 "are_persons" (spOfThing Ps) []) (c3 : Cal P w K mg base 1 "bits_of" spBitsOf [])
    (c4 : Cal P w K mg base 3 "look_bits" (spLookBits CB CO) []) (c5 : Cal P w K mg base 1 "crowd_of" spCrowdOf []) : Cal P w K mg base 7 "looked_through" (spThrough CB CO) [] := by
  refine cal_of (N := nThrough) h (by decide +kernel) (fun vs H Q E h => ?_) (fun nd f cdv A outer s H vs Q E hr h => ?_)
  · obtain ⟨o, ct, st, rt, n, od, zs, cs, ss, rs, rfl, _⟩ := h
    rfl
  · obtain ⟨o, ct, st, rt, n, od, zs, cs, ss, rs, rfl, hO, hz, hn, hc, hcr, hs, hsr, hw, hrt, hrs, h200, hco, q⟩ := h
    refine ⟨_, pss_cons (ps_expr (pe_c c1 hr (by decide) (by rfl) (pa_cons (pv 0) (pa_cons (pv 1) (pa_cons (pv 2) pa_nil)))))
      (pss_cons (ps_if (PW.pt (pw_or (pt_not (pt_val (pe_c c2 hr (by decide) (by rfl) (pa_cons (pe_fld (pe_fld (pv 0) rfl) rfl) (pa_cons (pv 3) pa_nil)))))
          (pw_or (pt_cmpR op_gt (pe_callB call_len_seq (by rfl) B.len PySem.boot_len (pa_cons (pv 3) pa_nil)) (pe_gc (by rfl) T.mlk) (nomark _))
          (pw_or1 (pt_not (pt_val (pe_callB (cr_all rfl) (by rfl) B.all (by decide +kernel) (pa_cons (pe_lc (own := [("one", 6)]) (g := gName 6) (tt := tYes) rfl nd (piT K (pv 3))
            (blkOk_by (own := [("one", 6)]) (N := nThrough) (sc := fnScope (topS 39)) (by decide +kernel)) (fun _ _ _ _ _ => pg_name (i := 6) nd rfl (Or.inl rfl)) (fun _ _ _ _ _ => pts_nil)
            (fun _ _ _ _ _ => pe_cmpR (inS K) (pv 6) (pv 1) (by rfl))) pa_nil)))))))) pss_never pss_nil)
      (pss_cons (ps_set (i := 4) nd rfl (Or.inl rfl) (pe_c c3 hr (by decide) (by rfl) (pa_cons (pv 2) pa_nil)))
      (pss_cons (ps_for PassesOwn.never rfl (pi_tup (pv 3)) (pg_name (i := 5) nd rfl (Or.inl rfl))
        (pss_one (ps_set (i := 4) nd rfl (Or.inl rfl) (pe_c c4 hr (by decide) (by rfl) (pa_cons (pv 0) (pa_cons (pv 4) (pa_cons (pv 5) pa_nil)))))))
      (pss_one (ps_ret (pe_c c5 hr (by decide) (by rfl) (pa_cons (pv 4) pa_nil))))))), ?_⟩
    refine ⟨_, rfl, _, rfl, _, rfl, o, ct, st, n, od, zs, cs, ss, rfl, hO, hn, hc, hcr, hs, hsr, hw, fun H1 s1 => ?_⟩
    obtain ⟨b, t, ml, ot, l, d, dxo, dxb, kvs, hD⟩ := id (hO.same s1)
    have r1 := s1 _ _ hrt
    refine ⟨_, rfl, o, CO, dxo, _, .ref b, rfl, hD.at_, T.clO, T.nBo, off_book, b, CB, dxb, _, .int (n : Int), rfl, hD.bk, T.clB, T.nPe, book_people, _, rfl, n, _, rfl,
      .inl ⟨rt, _, rfl, r1, by rw [nums_len]; omega, nums_thg _ _, fun H2 bb s2 hb => ⟨_, rfl, ?_⟩⟩⟩
    rw [hb.mpr ⟨rs, rfl, fun k hk => hcr.1 k (hrs k hk)⟩]
    have r2 := s2 _ _ r1
    refine iteF ⟨_, rfl, rt, _, rfl, .inr (SqT.of r2), _, _, rfl, rfl, _, rfl, ?_⟩
    refine iteF' (decide_eq_false (by rw [nums_len]; omega)) ?_
    refine ⟨_, rfl, rt, rfl, ⟨_, SqT.of r2⟩, fun D hD2 => ?_⟩
    refine lc_it (walk_tup (xs := nums rs)) (fun i H3 => Acc H2 D ((List.range i).map fun _ => V.bl true) H3) (acc_nil hD2) (fun _ _ _ a => SqT.of (a.sm _ _ r2)) (fun i y H3 H4 hi a hy => ?_) (fun H3 a => ?_)
    · obtain ⟨rfl, hy⟩ := hy
      obtain ⟨p, hp, rfl⟩ := nums_get hy
      refine ⟨rfl, _, rfl, _, rfl, ct, _, rfl, .inr (SqT.of (a.sm _ _ (s2 _ _ (s1 _ _ hc)))), rfl, nums_flat _, ?_⟩
      rw [inV_nums, decide_eq_true (hrs p (List.mem_of_getElem? hp))]
      rw [nums_len] at hi
      refine a.put hD2 (by rw [List.length_map, List.length_range]; omega) ?_
      exact range_more (fun _ => V.bl true) i
    · refine ⟨D, (List.range rs.length).map fun _ => true, rfl, SqL.of (by rw [a.at_, List.map_map, nums_len]; rfl), ?_⟩
      have z : ((List.range rs.length).map fun _ => true).all id = true := by
        rw [List.all_map]
        exact List.all_eq_true.mpr fun _ _ => rfl
      rw [z]
      refine ⟨_, rfl, iteF ?_⟩
      have s3 := (s1.trans s2).trans a.sm
      have hs3 := s3 _ _ hs
      refine ⟨_, rfl, st, ss, rfl, hs3, Nat.le_trans hsr.len (by omega), fun k hk => Nat.le_trans (Nat.le_of_lt (hsr.1 k hk)) (by omega), fun H4 s4 => ?_⟩
      have s5 := s3.trans s4
      have r5 := s5 _ _ hrt
      refine ⟨_, rfl, rt, rfl, ⟨_, SqT.of r5⟩, ?_⟩
      refine for_it (walk_tup (xs := nums rs)) (fun i σ H' => ∃ v5 v6, σ = [some (.ref o), some (.ref ct), some (.ref st), some (.ref rt), some (.int ((looks zs (bn ss) (rs.take i) : Nat) : Int)), v5, v6] ∧ Same H H')
        ⟨_, _, rfl, s5⟩ (fun i σ H' _ hp => ?_) (fun i x σ H0 H5 hi hp hy => ?_) (fun σ H5 hp => ?_)
      · obtain ⟨_, _, rfl, s6⟩ := hp
        exact SqT.of (s6 _ _ hrt)
      · obtain ⟨v5, v6, rfl, s6⟩ := hp
        obtain ⟨rfl, hx⟩ := hy
        obtain ⟨p, hp, rfl⟩ := nums_get hx
        have pm := hrs p (List.mem_of_getElem? hp)
        have pn := hcr.1 p pm
        refine ⟨_, rfl, _, rfl, _, rfl, o, looks zs (bn ss) (rs.take i), p, n, od, zs, rfl, hO.same s6, hz, hco p pm, by omega, fun H6 s7 => ⟨some (.int (p : Int)), v6, ?_, s6.trans s7⟩⟩
        have e : looks zs (bn ss) (rs.take (i + 1)) = look zs (looks zs (bn ss) (rs.take i)) p := fold_more hp
        rw [e]
        rfl
      · obtain ⟨_, _, rfl, s6⟩ := hp
        rw [nums_len, List.take_length]
        exact ⟨_, rfl, _, rfl, Nat.lt_of_lt_of_le (looks_lt (fun p hp => hcr.1 p (hrs p hp)) (bn_lt hsr)) (Nat.pow_le_pow_right (by decide) hn : 2 ^ n ≤ 2 ^ 12), fun H7 r s8 hr => q H7 r (s6.trans s8) hr⟩
def spQuiet (CB CO : Addr) : Sp := fun vs H Q _ => ∃ (o ct n : Nat) (od : List Nat) (zs : List (Nat × Nat)) (cs : List Nat) (x : V), vs = [.ref o, .ref ct, x] ∧ Off CB CO H o n od zs ∧ zs.length ≤ 57 ∧ n ≤ 12 ∧ H ct = some (.tup (nums cs)) ∧ Cr n cs ∧ (∀ p ∈ cs, p ∈ od) ∧
  ((∃ t xs, x = .ref t ∧ H t = some (.tup xs) ∧ xs.length ≤ 1000 ∧ (∀ y ∈ xs, Thg H y) ∧ ∀ H' b, Same H H' → (b = true ↔ ∃ ns : List Nat, xs = nums ns ∧ Cr n ns ∧ bn cs &&& bn ns = bn ns ∧ quiet zs cs (bn ns) = true) → Q (.bl b) H') ∨ (Nt H x ∧ ∀ H', Same H H' → Q (.bl false) H'))
abbrev nQuiet : List Str := ["office", "crowd", "thing", "bits", "person"]
theorem ok_quiet (B : Bi mg) (T : ClF K mg CB CO) (h : Has K mg "is_quiet" (topS 40) ["office", "crowd", "thing"]) (c1 : Cal P w K mg base 5 "check_crowd" spCheck []) (c2 : Cal P w K mg base 5 "is_state" spIsState []) (c3 : Cal P w K mg base 1 "bits_of" spBitsOf [])
    (c4 : Cal P w K mg base 3 "look_bits" (spLookBits CB CO) []) : Cal P w K mg base 6 "is_quiet" (spQuiet CB CO) [] := by
  refine cal_of (N := nQuiet) h (by decide +kernel) (fun vs H Q E h => ?_) (fun nd f cdv A outer s H vs Q E hr h => ?_)
  · obtain ⟨o, ct, n, od, zs, cs, x, rfl, _⟩ := h
    rfl
  · obtain ⟨o, ct, n, od, zs, cs, x, rfl, hO, hz, hn, hc, hcr, hco, h⟩ := h
    refine ⟨_, pss_cons (ps_expr (pe_c c1 hr (by decide) (by rfl) (pa_cons (pe_fld (pe_fld (pv 0) rfl) rfl) (pa_cons (pv 1) pa_nil))))
      (pss_cons (ps_if (pt_not (pt_val (pe_c c2 hr (by decide) (by rfl) (pa_cons (pe_fld (pe_fld (pv 0) rfl) rfl) (pa_cons (pv 1) (pa_cons (pv 2) pa_nil)))))) (pss_one (ps_ret pe_bl)) pss_nil)
      (pss_cons (ps_set (i := 3) nd rfl (Or.inr rfl) (pe_c c3 hr (by decide) (by rfl) (pa_cons (pv 2) pa_nil)))
      (pss_one (ps_ret (pe_callB (cr_all rfl) (by rfl) B.all (by decide +kernel) (pa_cons (pe_lc (own := [("person", 4)]) (g := gName 4) (tt := tYes) rfl nd (piT K (pv 1))
            (blkOk_by (own := [("person", 4)]) (N := nQuiet) (sc := fnScope (topS 40)) (by decide +kernel)) (fun _ _ _ _ _ => pg_name (i := 4) nd rfl (Or.inl rfl)) (fun _ _ _ _ _ => pts_nil)
            (fun _ _ _ _ _ => pe_cmpR op_eq (pe_c c4 hr (by decide) (by rfl) (pa_cons (pv 0) (pa_cons (pv 3) (pa_cons (pv 4) pa_nil)))) (pv 3) (nomark _))) pa_nil)))))), ?_⟩
    obtain ⟨b, t, ml, ot, l, d, dxo, dxb, kvs, hD⟩ := id hO
    refine ⟨_, rfl, o, CO, dxo, _, .ref b, rfl, hD.at_, T.clO, T.nBo, off_book, b, CB, dxb, _, .int (n : Int), rfl, hD.bk, T.clB, T.nPe, book_people, _, rfl, n, ct, cs, rfl, hc, hcr, Nat.le_trans hcr.len (by omega), fun H1 s1 => ?_⟩
    have c1' := s1 _ _ hc
    refine ⟨_, rfl, o, CO, dxo, _, .ref b, rfl, s1 _ _ hD.at_, T.clO, T.nBo, off_book, b, CB, dxb, _, .int (n : Int), rfl, s1 _ _ hD.bk, T.clB, T.nPe, book_people, _, rfl, _, rfl, n, ct, cs, x, rfl, c1', hcr, hn, ?_⟩
    rcases h with ⟨t1, xs, rfl, ht, hzx, hx, q⟩ | ⟨hnt, q⟩
    · refine .inl ⟨t1, xs, rfl, s1 _ _ ht, hzx, fun y hy => (hx y hy).same s1, fun H2 bb s2 hb => ⟨_, rfl, ?_⟩⟩
      cases bb with
      | false => exact iteT (q H2 false (s1.trans s2) ⟨(fun z => nomatch z), fun ⟨ns, e, c, w1, _⟩ => (Bool.false_ne_true (hb.mpr ⟨ns, e, c, w1⟩)).elim⟩)
      | true =>
        obtain ⟨ns, rfl, nc, w1⟩ := hb.mp rfl
        have s3 := s1.trans s2
        refine iteF ⟨_, rfl, t1, ns, rfl, s3 _ _ ht, Nat.le_trans nc.len (by omega), fun k hk => Nat.le_trans (Nat.le_of_lt (nc.1 k hk)) (by omega), fun H3 s4 => ?_⟩
        have s5 := s3.trans s4
        have c5 := s5 _ _ hc
        refine ⟨_, rfl, ct, rfl, ⟨_, SqT.of c5⟩, fun D hD2 => ?_⟩
        refine lc_it (walk_tup (xs := nums cs)) (fun i H4 => Acc H3 D ((cs.take i).map fun p => V.bl (decide (look zs (bn ns) p = bn ns))) H4) (acc_nil hD2) (fun _ _ _ a => SqT.of (a.sm _ _ c5)) (fun i y H4 H5 hi a hy => ?_) (fun H4 a => ?_)
        · obtain ⟨rfl, hy⟩ := hy
          obtain ⟨p, hp, rfl⟩ := nums_get hy
          have pm := List.mem_of_getElem? hp
          have pn := hcr.1 p pm
          refine ⟨rfl, _, rfl, _, rfl, _, rfl, o, bn ns, p, n, od, zs, rfl, (hO.same s5).same a.sm, hz, hco p pm, by omega, fun H6 s6 => ⟨_, rfl, rfl, ?_⟩⟩
          rw [dec_int]
          rw [nums_len] at hi
          have := hcr.len
          refine (a.more s6).put hD2 (by rw [List.length_map, List.length_take]; omega) ?_
          rw [take_more _ hp]
        · rw [nums_len, List.take_length] at a
          refine ⟨D, cs.map fun p => decide (look zs (bn ns) p = bn ns), rfl, SqL.of (by rw [a.at_, List.map_map]; rfl), ?_⟩
          have z : (cs.map fun p => decide (look zs (bn ns) p = bn ns)).all id = quiet zs cs (bn ns) := by
            unfold quiet
            rw [List.all_map]
            rfl
          rw [z]
          refine q H4 _ (s5.trans a.sm) ⟨fun e => ⟨ns, rfl, nc, w1, e⟩, fun ⟨ms, e, _, _, e2⟩ => ?_⟩
          rw [nums_inj e]
          exact e2
    · exact .inr ⟨hnt.same s1, _, rfl, iteT (q H1 s1)⟩
end
end Lk
/-! The hand that draws. -/
namespace Lk
open PySem PySem.Spec PyProof.Rows L2 C8
structure HandD (H : Hp) (h c : Addr) (cells : List Int) (i : Nat) (a b d : Int) : Prop where
  at_ : H h = some (.lst [.ref c, .int (i : Int), .int a, .int b, .int d])
  ce : H c = some (.lst (cells.map V.int))
  ne : c ≠ h
/-- a hand stands at h -/
def HandAt (H : Hp) (h c : Addr) : Prop := ∃ cells i a b d, HandD H h c cells i a b d
theorem HandAt.same {H H' : Hp} {h c : Addr} (x : HandAt H h c) (s : Same H H') : HandAt H' h c := by
  obtain ⟨cells, i, a, b, d, x⟩ := x
  exact ⟨cells, i, a, b, d, s _ _ x.at_, s _ _ x.ce, x.ne⟩
theorem HandAt.lst {H : Hp} {h c : Addr} (x : HandAt H h c) : ∃ xs, H h = some (.lst xs) := by
  obtain ⟨cells, i, a, b, d, x⟩ := x
  exact ⟨_, x.at_⟩
theorem HandAt.new {H : Hp} {h c a : Addr} (x : HandAt H h c) (n : H a = none) : a ≠ h ∧ a ≠ c := by
  obtain ⟨cells, i, a', b, d, x⟩ := x
  exact ⟨(ne_of_none x.at_ n).symm, (ne_of_none x.ce n).symm⟩
theorem HandAt.put {H : Hp} {h c a : Addr} {o : HO} (x : HandAt H h c) (n : a ≠ h ∧ a ≠ c) : HandAt (upd H a o) h c := by
  obtain ⟨cells, i, a', b, d, x⟩ := x
  exact ⟨cells, i, a', b, d, by rw [upd_ne n.1.symm]; exact x.at_, by rw [upd_ne n.2.symm]; exact x.ce, x.ne⟩
section
variable {P : Program} {w : World} {K : PySem.W.Frag} {mg : Str → Option Value} {base : Heap}
def spHand (K : PySem.W.Frag) : Sp := fun vs H Q _ => ∃ (a : Addr) (ns : List Int), vs = [.ref a] ∧ SqL K H a (ns.map V.int) ∧ ns.length ≤ 63 ∧ ∀ H' h c, Same H H' → HandAt H' h c → Q (.ref h) H'
theorem ok_hand (B : Bi mg) (h : Has K mg "_law_hand" (topS 42) ["_law_script"]) : Cal P w K mg base 1 "_law_hand" (spHand K) [] := by
  refine cal_of (N := ["_law_script", "_law_cells", "_law_cell"]) h (by decide +kernel) (fun vs H Q E h => ?_) (fun nd f cdv A outer s H vs Q E hr h => ?_)
  · obtain ⟨a, ns, rfl, _⟩ := h
    rfl
  · obtain ⟨a, ns, rfl, ha, hn, q⟩ := h
    refine ⟨_, pss_cons (ps_setLc (i := 1) (own := [("_law_cell", 2)]) (g := gName 2) (tt := tYes) rfl nd rfl rfl (sw_true rfl rfl rfl (by decide +kernel)) (pi_list (pe_slice sl_list (pv 0) po_none (po_some pe_int)))
        (blkOk_by (own := [("_law_cell", 2)]) (N := ["_law_script", "_law_cells", "_law_cell"]) (sc := fnScope (topS 42)) (by decide +kernel)) (fun _ _ _ _ _ => pg_name (i := 2) nd rfl (Or.inl rfl)) (fun _ _ _ _ _ => pts_nil)
        (fun _ _ _ _ _ => pe_callB call_abs (by rfl) B.abs (by decide +kernel) (pa_cons (pe_callTy call_int1 (by rfl) B.int (by decide +kernel) (pa_cons (pv 2) pa_nil)) pa_nil)))
      (pss_one (ps_ret (pe_lst (pa_cons (pv 1) (pa_cons pe_int (pa_cons pe_int (pa_cons (pe_op op_add pe_int (pe_callB call_len_seq (by rfl) B.len PySem.boot_len (pa_cons (pv 1) pa_nil))) (pa_cons pe_int pa_nil)))))))), ?_⟩
    obtain ⟨ms, hms, hml⟩ : ∃ ms : List Int, cutV (ns.map V.int) none (some 63) = ms.map V.int ∧ ms.length ≤ 63 := by
      refine ⟨(ns.drop (HT.sIx (ns.map V.int).length 0 none)).take (HT.sIx (ns.map V.int).length (ns.map V.int).length (some 63) - HT.sIx (ns.map V.int).length 0 none), ?_, ?_⟩
      · unfold cutV
        rw [List.map_take, List.map_drop]
      · rw [List.length_take, List.length_drop]
        omega
    refine ⟨_, rfl, 63, rfl, a, _, rfl, ha, fun S hS => ⟨S, rfl, ⟨_, SqL.of upd_same⟩, fun D hD => ?_⟩⟩
    have s1 : Same H (upd H S (.lst (cutV (ns.map V.int) none (some 63)))) := same_new hS
    have hS1 : upd H S (.lst (cutV (ns.map V.int) none (some 63))) S = some (.lst (ms.map V.int)) := by rw [upd_same, hms]
    generalize upd H S (.lst (cutV (ns.map V.int) none (some 63))) = H1 at s1 hS1 hD
    refine lc_it (walk_list (xs := ms.map V.int)) (fun i H2 => Acc H1 D (((ms.take i).map fun z => if z < 0 then -z else z).map V.int) H2) (acc_nil hD) (fun _ _ _ a => SqL.of (a.sm _ _ hS1)) (fun i y H2 H3 hi a hy => ?_) (fun H2 a => ?_)
    · obtain ⟨rfl, hy⟩ := hy
      rw [List.getElem?_map] at hy
      obtain ⟨z, hz, rfl⟩ := Option.map_eq_some_iff.mp hy
      refine ⟨rfl, _, rfl, .inl ⟨z, rfl, z, rfl, a.put hD (by rw [List.length_map, List.length_map, List.length_take]; omega) ?_⟩⟩
      rw [take_more _ hz, List.map_append]
      rfl
    · rw [List.length_map, List.take_length] at a
      refine ⟨_, rfl, _, rfl, D, _, rfl, .inl (SqL.of a.at_), _, _, rfl, rfl, by show 5 ≤ sizeLine; decide, fun h hh => ?_⟩
      exact q _ h D ((s1.trans a.sm).trans (same_new hh)) ⟨_, 0, 0, _, 0, upd_same, by rw [upd_ne (ne_of_none a.at_ hh)]; exact a.at_, ne_of_none a.at_ hh⟩
def spDraw : Sp := fun vs H Q _ => ∃ (h c : Addr) (many : Nat), vs = [.ref h, .int (many : Int)] ∧ HandAt H h c ∧ 0 < many ∧ many ≤ 100000 ∧ ∀ H' (k : Nat), But h H H' → HandAt H' h c → k < many → Q (.int (k : Int)) H'
abbrev nDraw : List Str := ["_law_hand_here", "_law_many", "_law_cell", "_law_digit", "_law_number"]
theorem ok_draw (B : Bi mg) (h : Has K mg "_law_draw" (topS 43) ["_law_hand_here", "_law_many"]) : Cal P w K mg base 1 "_law_draw" spDraw [] := by
  refine cal_of (N := nDraw) h (by decide +kernel) (fun vs H Q E h => ?_) (fun nd f cdv A outer s H vs Q E hr h => ?_)
  · obtain ⟨a, c, n, rfl, _⟩ := h
    rfl
  · obtain ⟨h, c, many, rfl, hh, h0, h1, q⟩ := h
    obtain ⟨t2, P2, R2⟩ : ∃ t2, PSs (cxOf C8.CX0 P w K mg base nDraw "_law_draw" (fnScope (topS 43)) f cdv A outer s H E).nox ((fnBody (topS 43)).drop 1) t2 ∧
        ∀ v2 H', HandAt H' h c → But h H H' → t2 { nx := fun _ H' => Q .non H', rt := Q } [some (.ref h), some (.int (many : Int)), v2, none, none] H' := by
      refine ⟨_, pss_cons (ps_if (pt_cmpR op_gt (pe_ix ix_list (pv 0) pe_int (fun _ _ => rfl)) pe_int (nomark _))
          (pss_cons (ps_set (i := 3) nd rfl (Or.inl rfl) (pe_op op_mod (pe_callTy call_int1 (by rfl) B.int (by decide +kernel) (pa_cons (pe_ix ix_list (pv 0) pe_int (fun _ _ => rfl)) pa_nil)) (pv 1)))
          (pss_cons (ps_asg (pe_op op_fdiv (pe_ix ix_list (pv 0) pe_int (fun _ _ => rfl)) (pv 1)) (pg_sub (pv 0) pe_int set_list))
          (pss_one (ps_ret (pv 3))))) pss_nil)
        (pss_cons (ps_asg (pe_op op_add (pe_ix ix_list (pv 0) pe_int (fun _ _ => rfl)) pe_int) (pg_sub (pv 0) pe_int set_list))
        (pss_cons (ps_set (i := 4) nd rfl (Or.inl rfl) (pe_op op_mod (pe_callTy call_int1 (by rfl) B.int (by decide +kernel) (pa_cons (pe_op op_mul (pe_callTy call_int1 (by rfl) B.int (by decide +kernel)
            (pa_cons (pe_op op_add (pe_ix ix_list (pv 0) pe_int (fun _ _ => rfl)) (pe_op op_mul pe_int (pe_ix ix_list (pv 0) pe_int (fun _ _ => rfl)))) pa_nil)) pe_int) pa_nil)) pe_int))
        (pss_cons (ps_set (i := 4) nd rfl (Or.inl rfl) (pe_op op_mod (pe_callTy call_int1 (by rfl) B.int (by decide +kernel) (pa_cons (pe_op op_mul (pv 4) (pe_op op_add (pe_op op_fdiv (pv 4) pe_int) pe_int)) pa_nil)) pe_int))
        (pss_cons (ps_set (i := 4) nd rfl (Or.inl rfl) (pe_op op_mod (pe_callTy call_int1 (by rfl) B.int (by decide +kernel) (pa_cons (pe_op op_mul (pv 4) (pe_op op_add (pe_op op_fdiv (pv 4) pe_int) pe_int)) pa_nil)) pe_int))
        (pss_one (ps_ret (pe_op op_mod (pe_callTy call_int1 (by rfl) B.int (by decide +kernel) (pa_cons (pe_op op_fdiv (pv 4) pe_int) pa_nil)) (pv 1)))))))), fun v2 H1 hh b1 => ?_⟩
      obtain ⟨cells, i, a, b, d, D⟩ := hh
      have dec : ∀ {x : Int} {v : V} {H2 : Hp} {a' b' d' : Int}, HandD H2 h c cells i a' b' d' → But h H H2 → x = x % (many : Int) → Q (.int x) H2 := fun {x v H2 a' b' d'} D2 b2 e => by
        have e0 := Int.emod_nonneg x (show (many : Int) ≠ 0 by omega)
        have e1 := Int.emod_lt_of_pos x (show (0 : Int) < (many : Int) by omega)
        have := q H2 x.toNat b2 ⟨cells, i, a', b', d', D2⟩ (by omega)
        rw [Int.toNat_of_nonneg (by omega)] at this
        exact this
      refine ⟨_, rfl, h, _, 2, .int a, rfl, rfl, SqL.of D.at_, rfl, _, _, rfl, rfl, _, rfl, ?_⟩
      refine ite2 (fun ha => ?_) (fun ha => ?_)
      · refine ⟨_, rfl, h, _, 2, .int a, rfl, rfl, SqL.of D.at_, rfl, .inl ⟨a, rfl, _, rfl, _, _, rfl, rfl, by show (0 : Int) < (many : Int); omega, ?_⟩⟩
        refine ⟨_, rfl, h, _, 2, .int a, rfl, rfl, SqL.of D.at_, rfl, _, rfl, _, _, rfl, rfl, ⟨by omega, by omega⟩, ?_⟩
        refine ⟨_, rfl, h, _, 2, 2, rfl, rfl, D.at_, rfl, ?_⟩
        refine ⟨_, rfl, dec (a' := a / (many : Int)) (b' := b) (d' := d) (v := .non) ⟨upd_same, by rw [upd_ne D.ne]; exact D.ce, D.ne⟩ (b1.trans but_upd) ?_⟩
        exact (Int.emod_emod_of_dvd a (Int.dvd_refl _)).symm
      · refine ⟨_, rfl, h, _, 4, .int d, rfl, rfl, SqL.of D.at_, rfl, _, _, rfl, rfl, ?_⟩
        refine ⟨_, rfl, h, _, 4, 4, rfl, rfl, D.at_, rfl, ?_⟩
        have D2 : HandD (upd H1 h (.lst ([V.ref c, .int (i : Int), .int a, .int b, .int d].set 4 (.int (d + 1))))) h c cells i a b (d + 1) := ⟨upd_same, by rw [upd_ne D.ne]; exact D.ce, D.ne⟩
        have b2 : But h H (upd H1 h (.lst ([V.ref c, .int (i : Int), .int a, .int b, .int d].set 4 (.int (d + 1))))) := b1.trans but_upd
        generalize upd H1 h (.lst ([V.ref c, .int (i : Int), .int a, .int b, .int d].set 4 (.int (d + 1)))) = H2 at D2 b2
        refine ⟨_, rfl, h, _, 3, .int b, rfl, rfl, SqL.of D2.at_, rfl, _, rfl, h, _, 4, .int (d + 1), rfl, rfl, SqL.of D2.at_, rfl, _, _, rfl, rfl, .inl ⟨by decide, by decide⟩, _, _, rfl, rfl, .inl ⟨_, rfl, _, _, rfl, rfl, .inr ⟨by decide, by decide⟩,
          .inl ⟨_, rfl, _, _, rfl, rfl, (by show (0 : Int) < _; decide), ?_⟩⟩⟩
        generalize (b + 7919 * (d + 1)) * 48271 = z1
        refine ⟨_, rfl, _, rfl, _, _, rfl, rfl, ⟨by decide, by decide⟩, _, _, rfl, rfl, _, _, rfl, rfl, .inl ⟨by omega, by omega⟩, .inl ⟨_, rfl, _, _, rfl, rfl, (by show (0 : Int) < _; decide), ?_⟩⟩
        generalize z1 % 2147483647 * (z1 % 2147483647 / 1009 + 69621) = z2
        refine ⟨_, rfl, _, rfl, _, _, rfl, rfl, ⟨by decide, by decide⟩, _, _, rfl, rfl, _, _, rfl, rfl, .inl ⟨by omega, by omega⟩, .inl ⟨_, rfl, _, _, rfl, rfl, (by show (0 : Int) < _; decide), ?_⟩⟩
        refine ⟨_, rfl, _, _, rfl, rfl, ⟨by decide, by decide⟩, .inl ⟨_, rfl, _, rfl, _, _, rfl, rfl, by show (0 : Int) < (many : Int); omega, dec (v := .non) D2 b2 ?_⟩⟩
        exact (Int.emod_emod_of_dvd _ (Int.dvd_refl _)).symm
    refine ⟨_, pss_cons (ps_if (PW.pt (pw_and (pt_cmpR op_eq (pe_ix ix_list (pv 0) pe_int (fun _ _ => rfl)) pe_int (nomark _)) (pw_and1 (pt_cmpR op_lt (pe_ix ix_list (pv 0) pe_int (fun _ _ => rfl)) (pe_callB call_len_seq (by rfl) B.len PySem.boot_len (pa_cons (pe_ix ix_list (pv 0) pe_int (fun _ _ => rfl)) pa_nil)) (nomark _)))))
        (pss_cons (ps_set (i := 2) nd rfl (Or.inl rfl) (pe_ix ix_list (pe_ix ix_list (pv 0) pe_int (fun _ _ => rfl)) (pe_ix ix_list (pv 0) pe_int (fun _ _ => rfl)) (fun _ _ => rfl)))
        (pss_cons (ps_asg (pe_op op_add (pe_ix ix_list (pv 0) pe_int (fun _ _ => rfl)) pe_int) (pg_sub (pv 0) pe_int set_list))
        (pss_cons (ps_asg (pe_op op_mod (pe_callTy call_int1 (by rfl) B.int (by decide +kernel) (pa_cons (pe_op op_add (pe_op op_add (pe_op op_mul (pe_ix ix_list (pv 0) pe_int (fun _ _ => rfl)) pe_int) (pv 2)) pe_int) pa_nil)) pe_int) (pg_sub (pv 0) pe_int set_list))
        (pss_one (ps_if (pt_cmpR op_ge (pv 2) (pe_op op_pow pe_int pe_int) (nomark _)) (pss_one (ps_asg (pv 2) (pg_sub (pv 0) pe_int set_list))) pss_nil))))) pss_nil) P2, ?_⟩
    obtain ⟨cells, i, a, b, d, D⟩ := id hh
    refine ⟨_, rfl, h, _, 2, .int a, rfl, rfl, SqL.of D.at_, rfl, rfl, _, rfl, ?_⟩
    have base0 := R2 none H hh (fun _ _ _ e => e)
    refine ite2 (fun ha => ?_) (fun ha => base0)
    refine ⟨_, rfl, h, _, 1, .int (i : Int), rfl, rfl, SqL.of D.at_, rfl, _, rfl, h, _, 0, .ref c, rfl, rfl, SqL.of D.at_, rfl, c, _, rfl, .inl (SqL.of D.ce), _, _, rfl, rfl, _, rfl, ?_⟩
    refine ite2 (fun hi => ?_) (fun _ => base0)
    have hi := of_decide_eq_true hi
    obtain ⟨z, hz⟩ : ∃ z, cells[i]? = some z := ⟨_, List.getElem?_eq_getElem (by rw [List.length_map] at hi; omega)⟩
    refine ⟨_, rfl, h, _, 0, .ref c, rfl, rfl, SqL.of D.at_, rfl, _, rfl, h, _, 1, .int (i : Int), rfl, rfl, SqL.of D.at_, rfl, c, _, (i : Int), .int z, rfl, rfl, SqL.of D.ce, atI_nat (by rw [List.getElem?_map, hz]; rfl), ?_⟩
    refine ⟨_, rfl, h, _, 1, .int (i : Int), rfl, rfl, SqL.of D.at_, rfl, _, _, rfl, rfl, _, rfl, h, _, 1, 1, rfl, rfl, D.at_, rfl, ?_⟩
    have D1 : HandD (upd H h (.lst ([V.ref c, .int (i : Int), .int a, .int b, .int d].set 1 (.int ((i : Int) + 1))))) h c cells (i + 1) a b d := ⟨upd_same, by rw [upd_ne D.ne]; exact D.ce, D.ne⟩
    have b1 : But h H (upd H h (.lst ([V.ref c, .int (i : Int), .int a, .int b, .int d].set 1 (.int ((i : Int) + 1))))) := but_upd
    generalize upd H h (.lst ([V.ref c, .int (i : Int), .int a, .int b, .int d].set 1 (.int ((i : Int) + 1)))) = H1 at D1 b1
    refine ⟨_, rfl, h, _, 3, .int b, rfl, rfl, SqL.of D1.at_, rfl, _, _, rfl, rfl, .inr ⟨by decide, by decide⟩, _, rfl, _, _, rfl, rfl, _, _, rfl, rfl, .inl ⟨_, rfl, _, _, rfl, rfl, (by show (0 : Int) < _; decide), _, rfl, h, _, 3, 3, rfl, rfl, D1.at_, rfl, ?_⟩⟩
    have D2 : ∀ v : Int, HandD (upd H1 h (.lst ([V.ref c, .int ((i + 1 : Nat) : Int), .int a, .int b, .int d].set 3 (.int v)))) h c cells (i + 1) a v d := fun v => ⟨upd_same, by rw [upd_ne D1.ne]; exact D1.ce, D1.ne⟩
    have b2 : ∀ v : Int, But h H (upd H1 h (.lst ([V.ref c, .int ((i + 1 : Nat) : Int), .int a, .int b, .int d].set 3 (.int v)))) := fun v => b1.trans but_upd
    refine ⟨_, rfl, _, _, rfl, rfl, ⟨by decide, by decide, by decide⟩, _, _, rfl, rfl, _, rfl, ?_⟩
    refine ite2 (fun _ => ?_) (fun _ => R2 _ _ ⟨cells, i + 1, a, _, d, D2 _⟩ (b2 _))
    refine ⟨_, rfl, _, rfl, h, _, 2, 2, rfl, rfl, (D2 _).at_, rfl, ?_⟩
    exact R2 _ _ ⟨cells, i + 1, z, _, d, upd_same, by rw [upd_ne D1.ne]; exact (D2 _).ce, D1.ne⟩ ((b2 _).trans but_upd)
end
end Lk
/-! The law's small defs. -/
namespace Lk
open PySem PySem.Spec PyProof.Rows L2 C8
theorem walk_zipT {K : PySem.W.Frag} {a b : Addr} {xs ys : List V} {n : Nat} (h1 : n = xs.length) (h2 : n = ys.length) : Walk (RZ.ItzT K a b) n (fun H => SqT K H a xs ∧ SqT K H b ys) (YPair (fun i => xs[i]?) (fun i => ys[i]?)) := by
  refine ⟨fun i _ hi q => ?_, fun _ q => ⟨xs, ys, q.1, q.2, by omega⟩, fun i H v H' _ q y => ?_⟩
  · have h1 : i < xs.length := by omega
    have h2 : i < ys.length := by omega
    exact ⟨xs, ys, xs[i], ys[i], q.1, q.2, by simp [h1], by simp [h2]⟩
  · obtain ⟨T, x, z, h1, h2, h3, h4, h5⟩ := y
    exact ⟨T, x, z, h1, h2, h3, h4 xs q.1, h5 ys q.2⟩
theorem rg_nums (n : Nat) : rgV 0 (n : Int) = nums (List.range n) := by
  unfold rgV nums
  rw [Int.sub_zero, Int.toNat_natCast]
  refine List.map_congr_left fun i _ => ?_
  rw [Int.zero_add]
theorem put_but {h a : Addr} {H H' : Hp} {o : HO} (b : But h H H') (n : H a = none) : But h H (upd H' a o) := fun c x hc e => by
  rw [upd_ne (ne_of_none e n)]
  exact b c x hc e
section
variable {P : Program} {w : World} {K : PySem.W.Frag} {mg : Str → Option Value} {base : Heap}
def spFlag : Sp := fun vs H Q _ => ∃ a b : Bool, vs = [.bl a, .bl b] ∧ Q (.bl (decide (a = b))) H
theorem dec_bl (a b : Bool) : decide (V.bl a = V.bl b) = decide (a = b) := decide_eq_decide.mpr ⟨fun h => V.bl.inj h, fun h => by rw [h]⟩
theorem ok_flag (B : Bi mg) (h : Has K mg "_law_flag" (topS 44) ["_law_told", "_law_due"]) : Cal P w K mg base 1 "_law_flag" spFlag [] := by
  refine cal_of (N := ["_law_told", "_law_due"]) h (by decide +kernel) (fun vs H Q E h => ?_) (fun nd f cdv A outer s H vs Q E hr h => ?_)
  · obtain ⟨a, b, rfl, _⟩ := h
    rfl
  · obtain ⟨a, b, rfl, q⟩ := h
    refine ⟨_, pss_one (ps_ret (pe_and (pe_callB call_isi (by rfl) B.isinstance (by decide +kernel) (pa_cons (pv 0) (pa_cons (pe_bltn (by rfl) B.bool (v := .ty "bool") (by decide +kernel) rfl) pa_nil)))
      (pe_one (pe_cmpR op_eq (pv 0) (pv 1) (nomark _))))), ?_⟩
    refine ⟨_, rfl, _, .ty "bool", _, _, _, rfl, .ty _, .base (.bl a), kit_ty (show kitB "bool" "bool" = some true by decide +kernel), _, rfl, iteT ⟨_, rfl, _, rfl, rfl, ?_⟩⟩
    rw [dec_bl]
    exact q
def spIsI : Sp := fun vs H Q _ => ∃ a b : Nat, vs = [.int (a : Int), .int (b : Int)] ∧ ∀ H', Same H H' → Q (.bl (decide (a = b))) H'
def spIsT : Sp := fun vs H Q _ => ∃ (a b : Addr) (ns : List Nat), vs = [.ref a, .ref b] ∧ H a = some (.tup (nums ns)) ∧ H b = some (.tup (nums ns)) ∧ ns.length ≤ 1000 ∧ ∀ H', Same H H' → Q (.bl true) H'
theorem kit_it : PySem.W.kitAny K (.type "int") [.type "tuple", .type "list"] = some false :=
  kitAny_cons (b := false) (kit_ty (by decide +kernel)) (fun _ => kitAny_cons (b := false) (kit_ty (by decide +kernel)) (fun _ => kitAny_nil) (fun h => nomatch h)) (fun h => nomatch h)
theorem kit_tt2 : PySem.W.kitAny K (.type "tuple") [.type "tuple", .type "list"] = some true :=
  kitAny_cons (b := true) (kit_ty (by decide +kernel)) (fun h => nomatch h) (fun _ => rfl)
abbrev nIs : List Str := ["_law_told", "_law_due", "_law_one", "_law_two"]
theorem ok_isI (B : Bi mg) (h : Has K mg "_law_is" (topS 45) ["_law_told", "_law_due"]) : Cal P w K mg base 1 "_law_is" spIsI [] := by
  refine cal_of (N := nIs) h (by decide +kernel) (fun vs H Q E h => ?_) (fun nd f cdv A outer s H vs Q E hr h => ?_)
  · obtain ⟨a, b, rfl, _⟩ := h
    rfl
  · obtain ⟨a, b, rfl, q⟩ := h
    refine ⟨_, pss_cons (ps_if (pt_val (pe_callB call_isiT (by rfl) B.isinstance (by decide +kernel) (pa_cons (pv 1) (pa_cons (pe_tup (pa_cons (pe_bltn (by rfl) B.tuple (v := .ty "tuple") (by decide +kernel) rfl)
        (pa_cons (pe_bltn (by rfl) B.list (v := .ty "list") (by decide +kernel) rfl) pa_nil))) pa_nil)))) pss_never pss_nil)
      (pss_one (ps_ret (pe_and (pe_cmpR op_eq (pe_callB call_isi (by rfl) B.isinstance (by decide +kernel) (pa_cons (pv 0) (pa_cons (pe_bltn (by rfl) B.bool (v := .ty "bool") (by decide +kernel) rfl) pa_nil)))
          (pe_callB call_isi (by rfl) B.isinstance (by decide +kernel) (pa_cons (pv 1) (pa_cons (pe_bltn (by rfl) B.bool (v := .ty "bool") (by decide +kernel) rfl) pa_nil))) (nomark _))
        (pe_one (pe_cmpR op_eq (pv 0) (pv 1) (nomark _)))))), ?_⟩
    refine ⟨_, rfl, by show 2 ≤ sizeLine; decide, fun T hT => ⟨_, T, _, _, _, _, rfl, upd_same, .cons (.ty _) (.cons (.ty _) .nil), .base (.int _), kit_it, _, rfl, iteF ?_⟩⟩
    have ib : kitB "int" "bool" = some false := by decide +kernel
    refine ⟨_, rfl, _, .ty "bool", _, _, _, rfl, .ty _, .base (.int _), kit_ty ib, _, rfl, _, .ty "bool", _, _, _, rfl, .ty _, .base (.int _), kit_ty ib, rfl, ?_⟩
    refine ⟨_, rfl, iteT ⟨_, rfl, _, rfl, rfl, ?_⟩⟩
    rw [dec_int]
    exact q _ (same_new hT)
theorem ok_isT (B : Bi mg) (h : Has K mg "_law_is" (topS 45) ["_law_told", "_law_due"]) (c1 : Cal P w K mg base 1 "_law_is" spIsI []) : Cal P w K mg base 2 "_law_is" spIsT [] := by
  refine cal_of (N := nIs) h (by decide +kernel) (fun vs H Q E h => ?_) (fun nd f cdv A outer s H vs Q E hr h => ?_)
  · obtain ⟨a, b, ns, rfl, _⟩ := h
    rfl
  · obtain ⟨a, b, ns, rfl, ha, hb, hz, q⟩ := h
    refine ⟨_, pss_cons (ps_if (pt_val (pe_callB call_isiT (by rfl) B.isinstance (by decide +kernel) (pa_cons (pv 1) (pa_cons (pe_tup (pa_cons (pe_bltn (by rfl) B.tuple (v := .ty "tuple") (by decide +kernel) rfl)
        (pa_cons (pe_bltn (by rfl) B.list (v := .ty "list") (by decide +kernel) rfl) pa_nil))) pa_nil))))
        (pss_cons (ps_if (PW.pt (pw_or (pt_cmpR op_ne (pe_callB call_isi (by rfl) B.isinstance (by decide +kernel) (pa_cons (pv 0) (pa_cons (pe_bltn (by rfl) B.tuple (v := .ty "tuple") (by decide +kernel) rfl) pa_nil)))
            (pe_callB call_isi (by rfl) B.isinstance (by decide +kernel) (pa_cons (pv 1) (pa_cons (pe_bltn (by rfl) B.tuple (v := .ty "tuple") (by decide +kernel) rfl) pa_nil))) (nomark _))
            (pw_or1 (pt_not (pt_val (pe_callB call_isiT (by rfl) B.isinstance (by decide +kernel) (pa_cons (pv 0) (pa_cons (pe_tup (pa_cons (pe_bltn (by rfl) B.tuple (v := .ty "tuple") (by decide +kernel) rfl)
              (pa_cons (pe_bltn (by rfl) B.list (v := .ty "list") (by decide +kernel) rfl) pa_nil))) pa_nil)))))))) (pss_one (ps_ret pe_bl)) pss_nil)
        (pss_one (ps_ret (pe_and (pe_cmpR op_eq (pe_callB call_len_seq (by rfl) B.len PySem.boot_len (pa_cons (pv 0) pa_nil)) (pe_callB call_len_seq (by rfl) B.len PySem.boot_len (pa_cons (pv 1) pa_nil)) (nomark _))
          (pe_one (pe_callB (cr_all rfl) (by rfl) B.all (by decide +kernel) (pa_cons (pe_lc (own := [("_law_one", 2), ("_law_two", 3)]) (tt := tYes) rfl nd (RZ.pi_zipA (by rfl) B.zip (pa_cons (pv 0) (pa_cons (pv 1) pa_nil)))
            (blkOk_by (own := [("_law_one", 2), ("_law_two", 3)]) (N := nIs) (sc := fnScope (topS 45)) (by decide +kernel))
            (fun _ _ _ _ _ => pg_tupK (n := 2) K rfl (pgs_cons (pg_name (i := 2) nd rfl (Or.inl rfl)) (pgs_cons (pg_name (i := 3) nd rfl (Or.inl rfl)) pgs_nil))) (fun _ _ _ _ _ => pts_nil)
            (fun _ _ _ _ _ => pe_c c1 hr (by decide) (by rfl) (pa_cons (pv 2) (pa_cons (pv 3) pa_nil)))) pa_nil))))))) pss_nil) (pss_never), ?_⟩
    refine ⟨_, rfl, by show 2 ≤ sizeLine; decide, fun T hT => ⟨_, T, _, _, _, _, rfl, upd_same, .cons (.ty _) (.cons (.ty _) .nil), .base (.tup (same_new hT _ _ hb)), kit_tt2, _, rfl, iteT ?_⟩⟩
    have s1 := same_new (o := .tup [V.ty "tuple", V.ty "list"]) hT
    have a1 := s1 _ _ ha
    have b1 := s1 _ _ hb
    refine ⟨_, rfl, _, .ty "tuple", _, _, _, rfl, .ty _, .base (.tup a1), kit_ty kit_tt, _, rfl, _, .ty "tuple", _, _, _, rfl, .ty _, .base (.tup b1), kit_ty kit_tt, rfl, _, rfl, iteF ?_⟩
    refine ⟨_, rfl, by show 2 ≤ sizeLine; decide, fun T2 hT2 => ⟨_, T2, _, _, _, _, rfl, upd_same, .cons (.ty _) (.cons (.ty _) .nil), .base (.tup (same_new hT2 _ _ a1)), kit_tt2, _, rfl, iteF ?_⟩⟩
    have s2 := s1.trans (same_new (o := .tup [V.ty "tuple", V.ty "list"]) hT2)
    have a2 := s2 _ _ ha
    have b2 := s2 _ _ hb
    generalize upd (upd H T (.tup [V.ty "tuple", V.ty "list"])) T2 (.tup [V.ty "tuple", V.ty "list"]) = H2 at s2 a2 b2
    refine ⟨_, rfl, a, _, rfl, .inr (SqT.of a2), _, rfl, b, _, rfl, .inr (SqT.of b2), rfl, ?_⟩
    rw [decide_eq_true rfl]
    refine ⟨_, rfl, iteT ⟨_, rfl, _, rfl, a, b, _, _, rfl, .inr ⟨SqT.of a2, SqT.of b2, fun D hD => ?_⟩⟩⟩
    refine lc_it (walk_zipT (xs := nums ns) (ys := nums ns) (n := ns.length) (nums_len _).symm (nums_len _).symm) (fun i H3 => Acc H2 D ((List.range i).map fun _ => V.bl true) H3) (acc_nil hD) (fun _ _ _ c => ⟨SqT.of (c.sm _ _ a2), SqT.of (c.sm _ _ b2)⟩) (fun i y H3 H4 hi c hy => ?_) (fun H3 c => ?_)
    · obtain ⟨T3, x1, y1, rfl, hT3, rfl, e1, e2⟩ := hy
      obtain ⟨k, hk, rfl⟩ := nums_get e1
      obtain ⟨k2, hk2, rfl⟩ := nums_get e2
      have ek : k2 = k := Option.some.inj (hk2.symm.trans hk)
      subst ek
      refine ⟨T3, _, rfl, SqT.of upd_same, rfl, _, [.int (k2 : Int)], rfl, _, [], rfl, rfl, ?_⟩
      refine ⟨rfl, _, rfl, _, rfl, k2, k2, rfl, fun H5 s5 => ?_⟩
      rw [decide_eq_true rfl]
      refine ((c.more (same_new hT3)).more s5).put hD (by rw [List.length_map, List.length_range]; omega) ?_
      exact range_more (fun _ => V.bl true) i
    · refine ⟨D, (List.range ns.length).map fun _ => true, rfl, SqL.of (by rw [c.at_, List.map_map]; rfl), ?_⟩
      have z : ((List.range ns.length).map fun _ => true).all id = true := by
        rw [List.all_map]
        exact List.all_eq_true.mpr fun _ _ => rfl
      rw [z]
      exact q _ (s2.trans c.sm)
end
end Lk
/-! The law's order, bits, crowds, who is let in, checks. -/
namespace Lk
open PySem PySem.Spec PyProof.Rows L2 C8
theorem bn_more {ns : List Nat} {i k : Nat} (h : ns[i]? = some k) : bn (ns.take (i + 1)) = bn (ns.take i) + 2 ^ k := by
  unfold bn
  rw [take_more _ h, List.sum_append]
  rfl
theorem mod_bit (m k : Nat) : decide (V.int (((m / 2 ^ k : Nat) : Int) % 2) = V.int 1) = m.testBit k := by
  have e : ((m / 2 ^ k : Nat) : Int) % 2 = ((m / 2 ^ k % 2 : Nat) : Int) := by omega
  rw [e]
  exact (dec_int _ 1).trans (Nat.testBit_eq_decide_div_mod_eq).symm
theorem pos_bit (c p : Nat) : decide ((0 : Int) < ((c &&& 2 ^ p : Nat) : Int)) = c.testBit p := by
  have ht : (c &&& 2 ^ p).testBit p = c.testBit p := by
    rw [Nat.testBit_and, Nat.testBit_two_pow_self, Bool.and_true]
  cases hb : c.testBit p with
  | false =>
    rw [decide_eq_false_iff_not]
    have : c &&& 2 ^ p = 0 := Nat.eq_of_testBit_eq fun k => by
      rw [Nat.testBit_and, Nat.testBit_two_pow, Nat.zero_testBit]
      by_cases e : p = k
      · rw [← e, hb]
        rfl
      · rw [decide_eq_false e, Bool.and_false]
    rw [this]
    omega
  | true =>
    rw [decide_eq_true_eq]
    rw [hb] at ht
    have : c &&& 2 ^ p ≠ 0 := fun e => by
      rw [e, Nat.zero_testBit] at ht
      cases ht
    omega
theorem map_erase {α β : Type} (f : α → β) : ∀ (l : List α) (k : Nat), (l.map f).eraseIdx k = (l.eraseIdx k).map f
  | [], _ => rfl
  | _ :: _, 0 => rfl
  | x :: l, k + 1 => by
    show f x :: (l.map f).eraseIdx k = f x :: (l.eraseIdx k).map f
    rw [map_erase f l k]
theorem perm_erase {α : Type} : ∀ {l : List α} {k : Nat} {y : α}, l[k]? = some y → (y :: l.eraseIdx k).Perm l
  | [], _, _, h => by cases h
  | x :: l, 0, y, h => by
    have e : x = y := Option.some.inj h
    rw [e]
    exact .refl _
  | x :: l, k + 1, y, h => by
    have ih := perm_erase (l := l) (k := k) (y := y) h
    exact (List.Perm.swap x y (l.eraseIdx k)).trans (.cons x ih)
theorem seq_at {n k : Nat} (h : k < n) : seqIndex? (k : Int) n = some k := (ixN_seq (i := (k : Int)) (j := k) (by
  unfold ixN
  rw [if_pos (by omega), if_pos (by omega)]
  simp)).1
section
variable {P : Program} {w : World} {K : PySem.W.Frag} {mg : Str → Option Value} {base : Heap}
def spLOrder : Sp := fun vs H Q _ => ∃ (h c : Addr) (n : Nat), vs = [.ref h, .int (n : Int)] ∧ HandAt H h c ∧ n ≤ 1000 ∧ ∀ H' p os, But h H H' → HandAt H' h c → H' p = some (.tup (nums os)) → os.Perm (List.range n) → Q (.ref p) H'
abbrev nLOrder : List Str := ["_law_hand_here", "_law_people_here", "_law_left", "_law_found", "_law_turn"]
theorem ok_lorder (B : Bi mg) (h : Has K mg "_law_order" (topS 46) ["_law_hand_here", "_law_people_here"]) (c1 : Cal P w K mg base 1 "_law_draw" spDraw []) : Cal P w K mg base 2 "_law_order" spLOrder [] := by
  refine cal_of (N := nLOrder) h (by decide +kernel) (fun vs H Q E h => ?_) (fun nd f cdv A outer s H vs Q E hr h => ?_)
  · obtain ⟨a, c, n, rfl, _⟩ := h
    rfl
  · obtain ⟨h, c, n, rfl, hh, hz, q⟩ := h
    refine ⟨_, pss_cons (ps_set (i := 2) nd rfl (Or.inl rfl) (pe_listRg rfl (by rfl) B.list (prg_1 (by rfl) B.range (pv 1))))
      (pss_cons (ps_set (i := 3) nd rfl (Or.inl rfl) (pe_lst pa_nil))
      (pss_cons (ps_for PassesOwn.never rfl (pi_range1 (by rfl) B.range (pa_cons (pv 1) pa_nil)) (pg_name (i := 4) nd rfl (Or.inl rfl))
        (pss_one (ps_expr (pe_bm PySem.F.plainAttrs_list PySem.F.slot_list_append PySem.F.type_list_append mt_append (pv 3)
          (pa_cons (pe_bm PySem.F.plainAttrs_list PySem.F.slot_list_pop PySem.F.type_list_pop mt_popAt (pv 2)
            (pa_cons (pe_c c1 hr (by decide) (by rfl) (pa_cons (pv 0) (pa_cons (pe_callB call_len_seq (by rfl) B.len PySem.boot_len (pa_cons (pv 2) pa_nil)) pa_nil))) pa_nil)) pa_nil)))))
      (pss_one (ps_ret (pe_callTy call_tuple_of (by rfl) B.tuple (by decide +kernel) (pa_cons (pv 3) pa_nil)))))), ?_⟩
    refine ⟨_, rfl, (n : Int), rfl, .of_le (by omega) (by omega) (by omega) (by omega), fun L hL => ?_⟩
    rw [rg_nums]
    refine ⟨Nat.zero_le _, fun F hF => ?_⟩
    have nL := hh.new hL
    have hh1 := hh.put (o := .lst (nums (List.range n))) nL
    have nF := hh1.new hF
    have hh2 := hh1.put (o := .lst []) nF
    have nFL : L ≠ F := ne_of_none upd_same hF
    have b2 : But h H (upd (upd H L (.lst (nums (List.range n)))) F (.lst [])) := Same.but ((same_new hL).trans (same_new hF))
    have fL : ∀ {H' : Hp}, But h H H' → True := fun _ => trivial
    refine ⟨_, rfl, _, rfl, by omega, by omega, ?_⟩
    rw [Int.toNat_natCast]
    refine for_it walk_r0 (fun i σ H' => ∃ v4 ls fs, σ = [some (.ref h), some (.int (n : Int)), some (.ref L), some (.ref F), v4] ∧ But h H H' ∧ HandAt H' h c ∧ H' L = some (.lst (nums ls)) ∧ H' F = some (.lst (nums fs)) ∧ (fs ++ ls).Perm (List.range n) ∧ fs.length = i)
      ⟨_, List.range n, [], rfl, b2, hh2, by rw [upd_ne nFL, upd_same], upd_same, .refl _, rfl⟩ (fun i σ H' _ hp => trivial) (fun i x σ H0 H1 hi hp hy => ?_) (fun σ H1 hp => ?_)
    · obtain ⟨rfl, rfl⟩ := hy
      obtain ⟨v4, ls, fs, rfl, bb, hh3, l3, f3, pm, fl⟩ := hp
      have ll : fs.length + ls.length = n := by
        have := pm.length_eq
        rw [List.length_append, List.length_range] at this
        exact this
      refine ⟨_, rfl, .inl ⟨rfl, _, SqL.of f3⟩, _, rfl, .inl ⟨rfl, _, SqL.of l3⟩, _, rfl, _, rfl, L, _, rfl, .inl (SqL.of l3), h, c, ls.length, by rw [nums_len]; rfl, hh3, by omega, by omega, fun H2 k b4 hh4 hk => ?_⟩
      obtain ⟨y, hy⟩ : ∃ y, ls[k]? = some y := ⟨_, List.getElem?_eq_getElem hk⟩
      have l4 := b4 _ _ nL.1 l3
      have f4 := b4 _ _ nF.1 f3
      refine ⟨L, _, (k : Int), k, .int (y : Int), rfl, rfl, l4, by omega, by omega, ?_, nums_at hy, ?_⟩
      · rw [nums_len]
        exact seq_at hk
      · have f5 : upd H2 L (.lst ((nums ls).eraseIdx k)) F = some (.lst (nums fs)) := by rw [upd_ne nFL.symm]; exact f4
        refine ⟨F, _, _, rfl, rfl, f5, by rw [nums_len]; exact szl (by omega), some (.int (i : Int)), ls.eraseIdx k, fs ++ [y], rfl, ?_, (hh4.put nL).put nF, ?_, ?_, ?_, by rw [List.length_append, fl]; rfl⟩
        · exact put_but (put_but (bb.trans b4) hL) (by
            cases e : H F with
            | none => rfl
            | some o =>
              have : upd H L (.lst (nums (List.range n))) F = some o := by rw [upd_ne nFL.symm]; exact e
              rw [hF] at this
              cases this)
        · rw [upd_ne nFL, upd_same]
          unfold nums
          rw [map_erase]
        · rw [upd_same, nums_app]
          rfl
        · refine List.Perm.trans ?_ pm
          rw [List.append_assoc]
          refine List.Perm.append_left fs ?_
          exact perm_erase hy
    · obtain ⟨v4, ls, fs, rfl, bb, hh3, l3, f3, pm, fl⟩ := hp
      have ll := pm.length_eq
      rw [List.length_append, List.length_range] at ll
      have e : ls = [] := List.length_eq_zero_iff.mp (by omega)
      rw [e, List.append_nil] at pm
      exact ⟨_, rfl, F, _, rfl, .inl ⟨SqL.of f3, fun p hp => q _ p fs (bb.trans (Same.but (same_new hp))) (hh3.same (same_new hp)) upd_same pm⟩⟩
def spLBits : Sp := fun vs H Q _ => ∃ (t : Addr) (ns : List Nat), vs = [.ref t] ∧ H t = some (.tup (nums ns)) ∧ (∀ k ∈ ns, k ≤ 1000) ∧ Q (.int ((bn ns : Nat) : Int)) H
theorem ok_lbits (h : Has K mg "_law_bits" (topS 54) ["_law_crowd_here"]) : Cal P w K mg base 1 "_law_bits" spLBits [] := by
  refine cal_of (N := ["_law_crowd_here", "_law_found", "_law_person"]) h (by decide +kernel) (fun vs H Q E h => ?_) (fun nd f cdv A outer s H vs Q E hr h => ?_)
  · obtain ⟨t, ns, rfl, _⟩ := h
    rfl
  · obtain ⟨t, ns, rfl, ht, hk, q⟩ := h
    refine ⟨_, pss_cons (ps_set (i := 1) nd rfl (Or.inl rfl) pe_int) (pss_cons (ps_for PassesOwn.never rfl (pi_tup (pv 0)) (pg_name (i := 2) nd rfl (Or.inl rfl))
        (pss_one (ps_set (i := 1) nd rfl (Or.inl rfl) (pe_op op_add (pv 1) (pe_op n_one pe_int (pv 2))))))
      (pss_one (ps_ret (pv 1)))), ?_⟩
    refine ⟨_, rfl, t, rfl, ⟨_, SqT.of ht⟩, ?_⟩
    refine for_it (walk_tup (xs := nums ns)) (fun i σ H' => ∃ v2, σ = [some (.ref t), some (.int ((bn (ns.take i) : Nat) : Int)), v2] ∧ H' = H)
      ⟨_, rfl, rfl⟩ (fun i σ H' _ hp => ?_) (fun i x σ H0 H1 hi hp hy => ?_) (fun σ H1 hp => ?_)
    · obtain ⟨_, rfl, rfl⟩ := hp
      exact SqT.of ht
    · obtain ⟨v2, rfl, rfl⟩ := hp
      obtain ⟨rfl, hx⟩ := hy
      obtain ⟨k, hk1, rfl⟩ := nums_get hx
      refine ⟨_, rfl, _, rfl, k, rfl, rfl, hk k (List.mem_of_getElem? hk1), _, _, rfl, rfl, some (.int (k : Int)), ?_, rfl⟩
      rw [bn_more hk1, Int.natCast_add]
      rfl
    · obtain ⟨v2, rfl, rfl⟩ := hp
      rw [nums_len, List.take_length]
      exact ⟨_, rfl, q⟩
def spLCrowd : Sp := fun vs H Q _ => ∃ (m : Nat), vs = [.int (m : Int)] ∧ ∀ H' p, Same H H' → H' p = some (.tup (nums (cr m))) → Q (.ref p) H'
theorem ok_lcrowd (B : Bi mg) (h : Has K mg "_law_crowd" (topS 55) ["_law_bits_here"]) : Cal P w K mg base 1 "_law_crowd" spLCrowd [] := by
  refine cal_of (N := ["_law_bits_here", "_law_person"]) h (by decide +kernel) (fun vs H Q E h => ?_) (fun nd f cdv A outer s H vs Q E hr h => ?_)
  · obtain ⟨m, rfl, _⟩ := h
    rfl
  · obtain ⟨m, rfl, q⟩ := h
    refine ⟨_, pss_one (ps_ret (pe_callTy call_tuple_of (by rfl) B.tuple (by decide +kernel) (pa_cons (pe_lc (own := [("_law_person", 1)]) (g := gName 1) rfl nd
      (pi_range1 (by rfl) B.range (pa_cons pe_int pa_nil))
      (blkOk_by (own := [("_law_person", 1)]) (N := ["_law_bits_here", "_law_person"]) (sc := fnScope (topS 55)) (by decide +kernel)) (fun _ _ _ _ _ => pg_name (i := 1) nd rfl (Or.inl rfl))
      (fun _ _ _ _ _ => pts_one (pt_cmpR op_eq (pe_op op_mod (pe_callTy call_int1 (by rfl) B.int (by decide +kernel) (pa_cons (pe_op n_shr (pv 0) (pv 1)) pa_nil)) pe_int) pe_int (nomark _)))
      (fun _ _ _ _ _ => pv 1)) pa_nil))), ?_⟩
    refine ⟨12, rfl, by decide, by decide, fun D hD => ?_⟩
    refine lc_it (walk_r0 (n := 12)) (fun i => Acc H D (nums ((List.range i).filter fun p => m.testBit p))) (acc_nil hD) (fun _ _ _ _ => trivial) (fun i x H0 H1 hi a hy => ?_) (fun H1 a => ?_)
    · obtain ⟨rfl, rfl⟩ := hy
      refine ⟨rfl, _, rfl, _, rfl, m, i, rfl, rfl, .inl ⟨_, rfl, _, _, rfl, rfl, (by show (0 : Int) < 2; decide), rfl, _, rfl, ?_⟩⟩
      rw [mod_bit]
      cases hb : m.testBit i with
      | false =>
        refine iteF ?_
        rw [filter_more, hb]
        simp only [Bool.false_eq_true, if_false, List.append_nil]
        exact a
      | true =>
        refine iteT ⟨_, rfl, a.put hD ?_ ?_⟩
        · rw [nums_len]
          exact Nat.le_trans (List.length_filter_le _ _) (by rw [List.length_range]; omega)
        · rw [filter_more, hb, nums_app]
          rfl
    · refine ⟨D, _, rfl, .inl ⟨SqL.of a.at_, fun p hp => q _ p (a.sm.trans (same_new hp)) upd_same⟩⟩
def spMasks : Sp := fun vs H Q _ => ∃ (t : Addr) (ks : List (Addr × List Nat)), vs = [.ref t] ∧ Rws H t ks ∧ (∀ p ∈ ks, Cr 12 p.2) ∧ ks.length ≤ 1000 ∧ ∀ H' D, Same H H' → H' D = some (.lst (maskV ks)) → Q (.ref D) H'
theorem ok_masks (h : Has K mg "_law_masks" (topS 57) ["_law_lots_here"]) (c1 : Cal P w K mg base 1 "_law_bits" spLBits []) : Cal P w K mg base 2 "_law_masks" spMasks [] := by
  refine cal_of (N := ["_law_lots_here", "_law_lot"]) h (by decide +kernel) (fun vs H Q E h => ?_) (fun nd f cdv A outer s H vs Q E hr h => ?_)
  · obtain ⟨t, ks, rfl, _⟩ := h
    rfl
  · obtain ⟨t, ks, rfl, ht, hc, hz, q⟩ := h
    refine ⟨_, pss_one (ps_ret (pe_lc (own := [("_law_lot", 1)]) (g := gName 1) (tt := tYes) rfl nd (piT K (pv 0))
      (blkOk_by (own := [("_law_lot", 1)]) (N := ["_law_lots_here", "_law_lot"]) (sc := fnScope (topS 57)) (by decide +kernel)) (fun _ _ _ _ _ => pg_name (i := 1) nd rfl (Or.inl rfl)) (fun _ _ _ _ _ => pts_nil)
      (fun _ _ _ _ _ => pe_c c1 hr (by decide) (by rfl) (pa_cons (pv 1) pa_nil)))), ?_⟩
    refine ⟨_, rfl, t, rfl, ⟨_, SqT.of ht.top⟩, fun D hD => ?_⟩
    refine lc_it (walk_tup (xs := ks.map fun p => V.ref p.1)) (fun i => Acc H D (maskV (ks.take i))) (acc_nil hD) (fun _ _ _ a => SqT.of (a.sm _ _ ht.top)) (fun i x H0 H1 hi a hy => ?_) (fun H1 a => ?_)
    · obtain ⟨rfl, hy⟩ := hy
      obtain ⟨p, hp, rfl⟩ := ks_at hy
      have hpm := List.mem_of_getElem? hp
      refine ⟨rfl, _, rfl, p.1, p.2, rfl, a.sm _ _ (ht.each p hpm), fun k hk => Nat.le_trans (Nat.le_of_lt ((hc p hpm).1 k hk)) (by decide), a.put hD ?_ ?_⟩
      · unfold maskV
        rw [List.length_map, List.length_take]
        omega
      · unfold maskV
        rw [take_more _ hp]
    · rw [List.length_map, List.take_length] at a
      exact q _ D a.sm a.at_
theorem maskV_nums (ks : List (Addr × List Nat)) : maskV ks = nums (ks.map fun p => bn p.2) := by
  unfold maskV nums
  rw [List.map_map]
  rfl
end
end Lk
/-! Who is let in by the law; its checks; its people. -/
namespace Lk
open PySem PySem.Spec PyProof.Rows L2 C8
theorem filter_take {α : Type} (f : α → Bool) {xs : List α} {i : Nat} {x : α} (h : xs[i]? = some x) : (xs.take (i + 1)).filter f = (xs.take i).filter f ++ if f x then [x] else [] := by
  rw [List.take_add_one, h, List.filter_append]
  congr 1
  show List.filter f [x] = _
  cases e : f x with
  | true => rw [List.filter_cons_of_pos e]; rfl
  | false => rw [List.filter_cons_of_neg (by rw [e]; exact Bool.false_ne_true)]; rfl
section
variable {P : Program} {w : World} {K : PySem.W.Frag} {mg : Str → Option Value} {base : Heap}
def spLet : Sp := fun vs H Q _ => ∃ (m ot : Addr) (ms od : List Nat) (c : Nat), vs = [.ref m, .ref ot, .int (c : Int)] ∧ H m = some (.lst (nums ms)) ∧ H ot = some (.tup (nums od)) ∧ (∀ k ∈ od, k ≤ 1000) ∧ ms.length ≤ 1000 ∧
  ∀ H', Same H H' → Q (.int ((linb ms od c : Nat) : Int)) H'
abbrev nLet : List Str := ["_law_masks_here", "_law_order_here", "_law_bits_here", "_law_found", "_law_person", "_law_one", "_law_barred", "_law_mask"]
theorem ok_let (B : Bi mg) (h : Has K mg "_law_let" (topS 56) ["_law_masks_here", "_law_order_here", "_law_bits_here"]) : Cal P w K mg base 1 "_law_let" spLet [] := by
  refine cal_of (N := nLet) h (by decide +kernel) (fun vs H Q E h => ?_) (fun nd f cdv A outer s H vs Q E hr h => ?_)
  · obtain ⟨m, ot, ms, od, c, rfl, _⟩ := h
    rfl
  · obtain ⟨m, ot, ms, od, c, rfl, hm, ho, hk, hz, q⟩ := h
    refine ⟨_, pss_cons (ps_set (i := 3) nd rfl (Or.inr rfl) pe_int) (pss_cons (ps_for PassesOwn.never rfl (pi_tup (pv 1)) (pg_name (i := 4) nd rfl (Or.inl rfl))
        (pss_cons (ps_set (i := 5) nd rfl (Or.inr rfl) (pe_op n_one pe_int (pv 4)))
        (pss_one (ps_if (pt_cmpR op_gt (pe_op n_and (pv 2) (pv 5)) pe_int (nomark _))
          (pss_cons (ps_setLc (i := 6) (own := [("_law_mask", 7)]) (g := gName 7) rfl nd rfl rfl (sw_true rfl rfl rfl (by decide +kernel)) (pi_list (pv 0))
            (blkOk_by (own := [("_law_mask", 7)]) (N := nLet) (sc := fnScope (topS 56)) (by decide +kernel)) (fun _ _ _ _ _ => pg_name (i := 7) nd rfl (Or.inl rfl))
            (fun _ _ _ _ _ => pts_one (PW.pt (pw_and (pt_cmpR op_gt (pe_op n_and (pv 7) (pv 5)) pe_int (nomark _)) (pw_and1 (pt_cmpR op_eq (pe_op n_and (pe_op n_or (pv 3) (pv 5)) (pv 7)) (pv 7) (nomark _))))))
            (fun _ _ _ _ _ => pv 7))
          (pss_one (ps_if (pt_cmpR op_eq (pe_callB call_len_seq (by rfl) B.len PySem.boot_len (pa_cons (pv 6) pa_nil)) pe_int (nomark _))
            (pss_one (ps_set (i := 3) nd rfl (Or.inr rfl) (pe_op n_or (pv 3) (pv 5)))) pss_nil))) pss_nil))))
      (pss_one (ps_ret (pv 3)))), ?_⟩
    refine ⟨_, rfl, ot, rfl, ⟨_, SqT.of ho⟩, ?_⟩
    refine for_it (walk_tup (xs := nums od)) (fun i σ H' => ∃ v4 v5 v6, σ = [some (.ref m), some (.ref ot), some (.int (c : Int)), some (.int (((od.take i).foldl (lstep ms c) 0 : Nat) : Int)), v4, v5, v6, none] ∧ Same H H')
      ⟨_, _, _, rfl, fun _ _ e => e⟩ (fun i σ H' _ hp => ?_) (fun i x σ H0 H1 hi hp hy => ?_) (fun σ H1 hp => ?_)
    · obtain ⟨_, _, _, rfl, s1⟩ := hp
      exact SqT.of (s1 _ _ ho)
    · obtain ⟨v4, v5, v6, rfl, s1⟩ := hp
      obtain ⟨rfl, hx⟩ := hy
      obtain ⟨p, hp, rfl⟩ := nums_get hx
      have pk := hk p (List.mem_of_getElem? hp)
      have e2 : (od.take (i + 1)).foldl (lstep ms c) 0 = lstep ms c ((od.take i).foldl (lstep ms c) 0) p := fold_more hp
      rw [e2]
      generalize (od.take i).foldl (lstep ms c) 0 = F
      generalize hW : lstep ms c F p = W
      unfold lstep at hW
      refine ⟨_, rfl, p, rfl, rfl, pk, _, rfl, _, rfl, c, 2 ^ p, rfl, rfl, _, _, rfl, rfl, _, rfl, ?_⟩
      rw [pos_bit]
      cases hb : c.testBit p with
      | false =>
        rw [hb] at hW
        have hW : F = W := hW
        subst hW
        exact iteF ⟨_, _, _, rfl, s1⟩
      | true =>
        rw [hb] at hW
        have hW : (if (ms.filter fun m => m.testBit p && decide ((F ||| 2 ^ p) &&& m = m)).isEmpty then F ||| 2 ^ p else F) = W := hW
        have m1 := s1 _ _ hm
        refine iteT ⟨_, rfl, m, rfl, ⟨_, SqL.of m1⟩, fun D hD => ?_⟩
        refine lc_it (walk_list (xs := nums ms)) (fun j H2 => Acc H1 D (nums ((ms.take j).filter fun m => m.testBit p && decide ((F ||| 2 ^ p) &&& m = m))) H2) (acc_nil hD) (fun _ _ _ a => SqL.of (a.sm _ _ m1)) (fun j y H2 H3 hj a hy => ?_) (fun H2 a => ?_)
        · obtain ⟨rfl, hy⟩ := hy
          obtain ⟨u, hu, rfl⟩ := nums_get hy
          rw [nums_len] at hj
          refine ⟨rfl, _, rfl, _, rfl, u, 2 ^ p, rfl, rfl, _, _, rfl, rfl, _, rfl, ?_⟩
          rw [pos_bit, filter_take _ hu]
          cases hb2 : u.testBit p with
          | false =>
            refine iteF (iteF ?_)
            rw [Bool.false_and]
            simp only [Bool.false_eq_true, if_false, List.append_nil]
            exact a
          | true =>
            refine iteT ⟨_, rfl, _, rfl, F, 2 ^ p, rfl, rfl, _, rfl, F ||| 2 ^ p, u, rfl, rfl, _, rfl, rfl, _, rfl, ?_⟩
            rw [dec_int, Bool.true_and]
            cases hd : decide ((F ||| 2 ^ p) &&& u = u) with
            | false =>
              refine iteF ?_
              simp only [Bool.false_eq_true, if_false, List.append_nil]
              exact a
            | true =>
              refine iteT ⟨_, rfl, a.put hD ?_ ?_⟩
              · rw [nums_len]
                exact Nat.le_trans (List.length_filter_le _ _) (by rw [List.length_take]; omega)
              · rw [nums_app]
                rfl
        · rw [nums_len, List.take_length] at a
          generalize (ms.filter fun m => m.testBit p && decide ((F ||| 2 ^ p) &&& m = m)) = bs at a hW
          refine ⟨_, rfl, D, _, rfl, .inl (SqL.of a.at_), rfl, _, rfl, ?_⟩
          rw [nums_len]
          cases bs with
          | nil =>
            have hW : F ||| 2 ^ p = W := hW
            subst hW
            exact iteT ⟨_, rfl, _, rfl, F, 2 ^ p, rfl, rfl, _, _, _, rfl, s1.trans a.sm⟩
          | cons x r =>
            have hW : F = W := hW
            subst hW
            refine iteF' (decide_eq_false fun z => ?_) ⟨_, _, _, rfl, s1.trans a.sm⟩
            have := V.int.inj z
            rw [List.length_cons] at this
            omega
    · obtain ⟨_, _, _, rfl, s1⟩ := hp
      rw [nums_len, List.take_length]
      exact ⟨_, rfl, q _ s1⟩
theorem ok_lis_integer (B : Bi mg) (h : Has K mg "_law_is_integer" (topS 60) ["_law_thing"]) : Cal P w K mg base 1 "_law_is_integer" spIsInteger [] := by
  refine cal_of (N := ["_law_thing"]) h (by decide +kernel) (fun vs H Q E h => ?_) (fun nd f cdv A outer s H vs Q E hr h => ?_)
  · obtain ⟨x, rfl, _⟩ := h
    rfl
  · obtain ⟨x, rfl, ht, q⟩ := h
    refine ⟨_, pss_one (ps_ret (pe_and (pe_callB call_isi (by rfl) B.isinstance (by decide +kernel) (pa_cons (pv 0) (pa_cons (pe_bltn (by rfl) B.int (v := .ty "int") (by decide +kernel) rfl) pa_nil)))
      (pe_one (pe_not (pe_callB call_isi (by rfl) B.isinstance (by decide +kernel) (pa_cons (pv 0) (pa_cons (pe_bltn (by rfl) B.bool (v := .ty "bool") (by decide +kernel) rfl) pa_nil))))))), ?_⟩
    obtain ⟨n, ty, h1, h2⟩ := ht.ty (K := K)
    refine ⟨x, rfl, x, .ty "int", _, _, _, rfl, .ty _, ty, kit_ty h1, _, rfl, ?_⟩
    cases x with
    | int i => exact ⟨_, rfl, _, .ty "bool", _, _, _, rfl, .ty _, ty, kit_ty h2, _, rfl, q⟩
    | bl b => exact ⟨_, rfl, _, .ty "bool", _, _, _, rfl, .ty _, ty, kit_ty h2, _, rfl, q⟩
    | _ => exact q
abbrev nLIsCrowd : List Str := ["_law_people_here", "_law_thing", "_law_person", "_law_k"]
theorem ok_lis_crowd (B : Bi mg) (h : Has K mg "_law_is_crowd" (topS 61) ["_law_people_here", "_law_thing"]) (c1 : Cal P w K mg base 1 "_law_is_integer" spIsInteger []) : Cal P w K mg base 2 "_law_is_crowd" (spOfThing Cw) [] := by
  refine cal_of (N := nLIsCrowd) h (by decide +kernel) (fun vs H Q E h => ?_) (fun nd f cdv A outer s H vs Q E hr h => ?_)
  · obtain ⟨n, x, rfl, _⟩ := h
    rfl
  obtain ⟨n, x, rfl, h⟩ := h
  refine ⟨_, pss_cons (ps_if (PW.pt (pw_or (pt_not (pt_val (pe_callB call_isi (by rfl) B.isinstance (by decide +kernel) (pa_cons (pv 1) (pa_cons (pe_bltn (by rfl) B.tuple (v := .ty "tuple") (by decide +kernel) rfl) pa_nil)))))
      (pw_or1 (pt_not (pt_val (pe_callB (cr_all rfl) (by rfl) B.all (by decide +kernel) (pa_cons (pe_lc (own := [("_law_person", 2)]) (g := gName 2) (tt := tYes) rfl nd (piT K (pv 1))
        (blkOk_by (own := [("_law_person", 2)]) (N := nLIsCrowd) (sc := fnScope (topS 61)) (by decide +kernel)) (fun _ _ _ _ _ => pg_name (i := 2) nd rfl (Or.inl rfl)) (fun _ _ _ _ _ => pts_nil)
        (fun _ _ _ _ _ => pe_and (pe_c c1 hr (by decide) (by rfl) (pa_cons (pv 2) pa_nil)) (pe_one (pe_chain op_le op_lt pe_int (pv 2) (pv 0))))) pa_nil))))))) (pss_one (ps_ret pe_bl)) pss_nil)
    (pss_one (ps_ret (pe_callB (cr_all rfl) (by rfl) B.all (by decide +kernel) (pa_cons (pe_lc (own := [("_law_k", 3)]) (g := gName 3) (tt := tYes) rfl nd
      (pi_range2 (by rfl) B.range (pa_cons pe_int (pa_cons (pe_callB call_len_seq (by rfl) B.len PySem.boot_len (pa_cons (pv 1) pa_nil)) pa_nil)))
      (blkOk_by (own := [("_law_k", 3)]) (N := nLIsCrowd) (sc := fnScope (topS 61)) (by decide +kernel)) (fun _ _ _ _ _ => pg_name (i := 3) nd rfl (Or.inl rfl)) (fun _ _ _ _ _ => pts_nil)
      (fun _ _ _ _ _ => pe_cmpR op_lt (pe_ix (ixT K) (pv 1) (pe_op op_sub (pv 3) pe_int) (fun _ _ => rfl)) (pe_ix (ixT K) (pv 1) (pv 3) (fun _ _ => rfl)) (nomark _))) pa_nil)))), ?_⟩
  rcases h with ⟨t, xs, rfl, ht, hz, hx, q⟩ | ⟨hn, q⟩
  · refine ⟨_, rfl, _, .ty "tuple", _, _, _, rfl, .ty _, .base (.tup ht), kit_ty kit_tt, _, rfl, iteF ?_⟩
    refine ⟨_, rfl, t, rfl, ⟨_, SqT.of ht⟩, fun D hD => ?_⟩
    refine lc_it walk_tup (fun i => Acc H D ((xs.take i).map fun y => V.bl (wit y 0 ((n : Int) - 1)))) (acc_nil hD) (fun _ _ _ a => SqT.of (a.sm _ _ ht)) (fun i x H0 H1 hi a hy => ?_) (fun H1 a => ?_)
    · obtain ⟨rfl, hx1⟩ := hy
      have fin : ∀ b, b = wit x 0 ((n : Int) - 1) → ∃ acc, H1 D = some (.lst acc) ∧ acc.length < sizeLine ∧ Acc H D ((xs.take (i + 1)).map fun y => V.bl (wit y 0 ((n : Int) - 1))) (upd H1 D (.lst (acc ++ [V.bl b]))) := fun b e => by
        refine a.put hD (by rw [List.length_map, List.length_take]; omega) ?_
        rw [take_more _ hx1, e]
      refine ⟨rfl, _, rfl, x, rfl, (hx x (List.mem_of_getElem? hx1)).same a.sm, _, rfl, ?_⟩
      cases x with
      | int i =>
        refine ⟨_, rfl, _, _, rfl, rfl, _, rfl, ite2 (fun e => ?_) (fun e => ?_)⟩
        · refine ⟨_, rfl, _, _, rfl, rfl, fin _ ?_⟩
          exact decide_eq_decide.mpr ⟨fun z => ⟨of_decide_eq_true e, by omega⟩, fun z => by have := z.2; omega⟩
        · exact fin false (decide_eq_false fun z => e (decide_eq_true z.1)).symm
      | _ => exact fin false rfl
    · rw [List.take_length] at a
      refine ⟨_, xs.map fun y => wit y 0 ((n : Int) - 1), rfl, SqL.of (by rw [a.at_, List.map_map]; rfl), ?_⟩
      have wa : (xs.map fun y => wit y 0 ((n : Int) - 1)).all id = true ↔ Ps n xs := by
        rw [List.all_map, ← wit_all]
        rfl
      cases hb : (xs.map fun y => wit y 0 ((n : Int) - 1)).all id with
      | false =>
        rw [hb] at wa
        exact ⟨_, rfl, iteT (q H1 false a.sm ⟨(fun z => nomatch z), fun z => (Bool.false_ne_true (wa.mpr z.ps)).elim⟩)⟩
      | true =>
        rw [hb] at wa
        have ps := wa.mp rfl
        obtain ⟨ns, rfl, hns⟩ := id ps
        have ht1 := a.sm _ _ ht
        refine ⟨_, rfl, iteF ?_⟩
        rw [nums_len] at hz
        refine ⟨_, rfl, t, _, rfl, .inr (SqT.of ht1), 1, _, rfl, ⟨by decide, by decide, by omega, by rw [nums_len]; omega⟩, fun D2 hD2 => ?_⟩
        have en : (((nums ns).length : Int) - 1).toNat = ns.length - 1 := by
          rw [nums_len]
          omega
        rw [en]
        refine lc_it walk_range (fun i => Acc H1 D2 ((List.range i).map fun i => V.bl (decide (ns.getD i 0 < ns.getD (i + 1) 0)))) (acc_nil hD2) (fun _ _ _ _ => trivial) (fun i x H2 H3 hi a2 hy => ?_) (fun H2 a2 => ?_)
        · obtain ⟨rfl, rfl⟩ := hy
          have h1 : H3 t = some (.tup (nums ns)) := a2.sm _ _ ht1
          refine ⟨rfl, _, rfl, _, rfl, _, _, rfl, rfl, t, _, _, _, rfl, rfl, SqT.of h1, at_of (j := i) (by omega) (nums_at (getD_at (by omega))), _, rfl, _, rfl, t, _, _, _, rfl, rfl, SqT.of h1, at_of (j := i + 1) (by omega) (nums_at (getD_at (by omega))), _, _, rfl, rfl, ?_⟩
          refine a2.put hD2 (by rw [List.length_map, List.length_range]; omega) ?_
          rw [range_more]
          congr 3
          exact decide_eq_decide.mpr ⟨fun z => by omega, fun z => by omega⟩
        · refine ⟨_, (List.range (ns.length - 1)).map fun i => decide (ns.getD i 0 < ns.getD (i + 1) 0), rfl, SqL.of (by rw [a2.at_, List.map_map]; rfl), ?_⟩
          rw [asc_all]
          refine q _ _ (a.sm.trans a2.sm) ?_
          rw [decide_eq_true_eq]
          exact ps.cw.symm
  · obtain ⟨T, ty, e⟩ := hn.ty (K := K)
    exact ⟨_, rfl, _, .ty "tuple", _, _, _, rfl, .ty _, ty, kit_ty e, _, rfl, iteT q⟩
def spLPeople : Sp := fun vs H Q _ => ∃ (h c : Addr), vs = [.ref h, .int 6] ∧ HandAt H h c ∧ ∀ H' (n : Nat), But h H H' → HandAt H' h c → 1 ≤ n → n ≤ 6 → Q (.int (n : Int)) H'
theorem ok_lpeople (h : Has K mg "_law_people" (topS 53) ["_law_hand_here", "_law_limit"]) (c1 : Cal P w K mg base 1 "_law_draw" spDraw []) : Cal P w K mg base 2 "_law_people" spLPeople [] := by
  refine cal_of (N := ["_law_hand_here", "_law_limit"]) h (by decide +kernel) (fun vs H Q E h => ?_) (fun nd f cdv A outer s H vs Q E hr h => ?_)
  · obtain ⟨h, c, rfl, _⟩ := h
    rfl
  · obtain ⟨h, c, rfl, hh, q⟩ := h
    refine ⟨_, pss_cons (ps_if (pt_cmpR op_eq (pe_c c1 hr (by decide) (by rfl) (pa_cons (pv 0) (pa_cons pe_int pa_nil))) pe_int (nomark _))
        (pss_one (ps_ret (pe_op op_add pe_int (pe_c c1 hr (by decide) (by rfl) (pa_cons (pv 0) (pa_cons (pv 1) pa_nil)))))) pss_nil)
      (pss_one (ps_ret (pe_op op_add pe_int (pe_c c1 hr (by decide) (by rfl) (pa_cons (pv 0) (pa_cons (pe_op op_sub (pv 1) pe_int) pa_nil)))))), ?_⟩
    refine ⟨_, rfl, h, c, 8, rfl, hh, by decide, by decide, fun H1 k b1 h1 hk => ⟨rfl, _, rfl, ?_⟩⟩
    refine ite2 (fun _ => ?_) (fun _ => ?_)
    · refine ⟨_, rfl, _, rfl, h, c, 6, rfl, h1, by decide, by decide, fun H2 k2 b2 h2 hk2 => ⟨_, _, rfl, rfl, ?_⟩⟩
      have := q H2 (1 + k2) (b1.trans b2) h2 (by omega) (by omega)
      rw [Int.natCast_add] at this
      exact this
    · refine ⟨_, rfl, _, rfl, _, _, rfl, rfl, h, c, 4, rfl, h1, by decide, by decide, fun H2 k2 b2 h2 hk2 => ⟨_, _, rfl, rfl, ?_⟩⟩
      have := q H2 (3 + k2) (b1.trans b2) h2 (by omega) (by omega)
      rw [Int.natCast_add] at this
      exact this
end
end Lk
/-! The least lots of some heaps. -/
namespace Lk
open PySem PySem.Spec PyProof.Rows L2 C8
/-! ### rows are equal, unlike -/
theorem row_lay : ∀ ns : List Nat, PyData.canLayAll0 (ns.map fun (k : Nat) => PyData.int (k : Int)) = true
  | [] => rfl
  | _ :: r => by simp [PyData.canLayAll0, PyData.canLay0, row_lay r]
theorem row_dep : ∀ ns : List Nat, PyData.depthAll (ns.map fun (k : Nat) => PyData.int (k : Int)) = 0
  | [] => rfl
  | _ :: r => by simp [PyData.depthAll, PyData.depth, row_dep r]
theorem row_shaped (ns : List Nat) : SeqAt.shaped (.tuple (ns.map fun (k : Nat) => PyData.int (k : Int))) = true := by
  simp [SeqAt.shaped, PyData.canLay0, PyData.depth, row_lay, row_dep]
theorem row_eqv : ∀ ns ms : List Nat, PyData.eqvAll (ns.map fun (k : Nat) => PyData.int (k : Int)) (ms.map fun (k : Nat) => PyData.int (k : Int)) = decide (ns = ms)
  | [], [] => by simp [PyData.eqvAll]
  | [], _ :: _ => by simp [PyData.eqvAll]
  | _ :: _, [] => by simp [PyData.eqvAll]
  | a :: r, b :: t => by
    simp only [List.map_cons, PyData.eqvAll, PyData.eqv, row_eqv r t]
    by_cases h : a = b <;> by_cases h' : r = t <;> simp [h, h'] <;> omega
theorem row_dps {K : PySem.W.Frag} {H : Hp} : ∀ ns : List Nat, DpAll K H (nums ns) (ns.map fun (k : Nat) => PyData.int (k : Int))
  | [] => .nil
  | _ :: r => .cons (.int _) (row_dps r)
theorem row_dp {K : PySem.W.Frag} {H : Hp} {a : Addr} {ns : List Nat} (h : SqT K H a (nums ns)) : Dp K H (.ref a) (.tuple (ns.map fun (k : Nat) => PyData.int (k : Int))) := .tup h (row_dps ns)
def rEqRow (K : PySem.W.Frag) : R2 := fun x y H Q => ∃ a b ns ms, x = .ref a ∧ y = .ref b ∧ SqT K H a (nums ns) ∧ SqT K H b (nums ms) ∧ Q (.bl (decide (ns = ms))) H
def rNeRow (K : PySem.W.Frag) : R2 := fun x y H Q => ∃ a b ns ms, x = .ref a ∧ y = .ref b ∧ SqT K H a (nums ns) ∧ SqT K H b (nums ms) ∧ Q (.bl (!decide (ns = ms))) H
theorem eqRow (K : PySem.W.Frag) {X : Cx} (hu : X.A.units + 64 < cLine) (hK : X.K = K := by rfl) : OpR X (compareOp .Eq) (rEqRow K) := by
  subst hK
  intro pins s σ H x y v u Q I rx ry h
  obtain ⟨a, b, ns, ms, rfl, rfl, h1, h2, q⟩ := h
  refine op_eqD hu pins s σ H _ _ v u Q I rx ry ⟨_, _, row_dp h1, row_dp h2, row_shaped _, row_shaped _, ?_⟩
  have e : PyData.eqv (.tuple (ns.map fun (k : Nat) => PyData.int (k : Int))) (.tuple (ms.map fun (k : Nat) => PyData.int (k : Int))) = decide (ns = ms) := by
    simp only [PyData.eqv]
    exact row_eqv ns ms
  rw [e]
  exact q
theorem neRow (K : PySem.W.Frag) {X : Cx} (hu : X.A.units + 64 < cLine) (hK : X.K = K := by rfl) : OpR X (compareOp .NotEq) (rNeRow K) := by
  subst hK
  intro pins s σ H x y v u Q I rx ry h
  obtain ⟨a, b, ns, ms, rfl, rfl, h1, h2, q⟩ := h
  refine op_neD hu pins s σ H _ _ v u Q I rx ry ⟨_, _, row_dp h1, row_dp h2, row_shaped _, row_shaped _, ?_⟩
  have e : PyData.eqv (.tuple (ns.map fun (k : Nat) => PyData.int (k : Int))) (.tuple (ms.map fun (k : Nat) => PyData.int (k : Int))) = decide (ns = ms) := by
    simp only [PyData.eqv]
    exact row_eqv ns ms
  rw [e]
  exact q
/-! ### the least ones -/
/-- lies within, and is unlike -/
def les (p q : Addr × List Nat) : Bool := !decide (q.2 = p.2) && q.2.all fun k => decide (k ∈ p.2)
def two_ (q : Addr × List Nat) : Bool := decide (1 < q.2.length)
def good (ks : List (Addr × List Nat)) (p : Addr × List Nat) : Bool := two_ p && ((ks.filter (les p)).filter two_).isEmpty
def rowI (p : Addr × List Nat) : Addr × List Int := (p.1, p.2.map fun (k : Nat) => (k : Int))
theorem rowI_lift {gs : List (Addr × List Nat)} : ∀ {L : List (Addr × List Int)}, (∀ p ∈ L, p ∈ gs.map rowI) → ∃ L0 : List (Addr × List Nat), L = L0.map rowI ∧ ∀ p ∈ L0, p ∈ gs
  | [], _ => ⟨[], rfl, fun _ h => nomatch h⟩
  | p :: L, h => by
    obtain ⟨L0, e, h0⟩ := rowI_lift (gs := gs) (L := L) fun q hq => h q (List.mem_cons_of_mem _ hq)
    obtain ⟨q, hq, eq⟩ := List.mem_map.mp (h p List.mem_cons_self)
    refine ⟨q :: L0, by rw [List.map_cons, e, eq], fun r hr => ?_⟩
    rcases List.mem_cons.mp hr with z | z
    · rw [z]
      exact hq
    · exact h0 r z
theorem lex_of : ∀ {a b : List Nat}, a ≠ b → ¬ (b.map fun (k : Nat) => (k : Int)) < (a.map fun (k : Nat) => (k : Int)) → lex a b = true
  | [], [], h, _ => (h rfl).elim
  | [], _ :: _, _, _ => rfl
  | _ :: _, [], _, h => (h (List.nil_lt_cons _ _)).elim
  | x :: a, y :: b, h, hn => by
    show (if x = y then lex a b else decide (x < y)) = true
    rw [List.map_cons, List.map_cons, List.cons_lt_cons_iff] at hn
    by_cases e : x = y
    · rw [if_pos e]
      refine lex_of (fun z => h (by rw [e, z])) fun z => hn (.inr ⟨by rw [e], z⟩)
    · rw [if_neg e, decide_eq_true_eq]
      have : ¬ (y : Int) < (x : Int) := fun z => hn (.inl z)
      omega
theorem least_lots {n : Nat} {ks : List (Addr × List Nat)} {L0 : List (Addr × List Nat)} (hc : ∀ p ∈ ks, Cr n p.2) (h0 : ∀ p ∈ L0, p ∈ ks.filter (good ks)) (nd : ((L0.map rowI).map (·.2)).Nodup) (pw : (L0.map rowI).Pairwise fun q r => ¬ r.2 < q.2) : Lots n (rows L0) := by
  have nd2 : L0.Pairwise fun p q => p.2 ≠ q.2 := by
    rw [List.map_map] at nd
    refine (List.pairwise_map.mp nd).imp fun {a b} h e => h ?_
    show (rowI a).2 = (rowI b).2
    unfold rowI
    rw [e]
  have mem : ∀ p ∈ L0, p ∈ ks ∧ 1 < p.2.length ∧ ∀ q ∈ ks, q.2 ≠ p.2 → (∀ k ∈ q.2, k ∈ p.2) → ¬ 1 < q.2.length := fun p hp => by
    obtain ⟨h1, h2⟩ := List.mem_filter.mp (h0 p hp)
    unfold good at h2
    rw [Bool.and_eq_true] at h2
    obtain ⟨h2, h3⟩ := h2
    refine ⟨h1, of_decide_eq_true h2, fun q hq hne hs hlt => ?_⟩
    have : q ∈ (ks.filter (les p)).filter two_ := by
      refine List.mem_filter.mpr ⟨List.mem_filter.mpr ⟨hq, ?_⟩, decide_eq_true hlt⟩
      unfold les
      rw [decide_eq_false hne, List.all_eq_true.mpr fun k hk => decide_eq_true (hs k hk)]
      rfl
    rw [List.isEmpty_iff.mp h3] at this
    exact absurd this List.not_mem_nil
  refine ⟨fun l hl => ?_, ?_, ?_⟩
  · obtain ⟨p, hp, rfl⟩ := List.mem_map.mp hl
    obtain ⟨h1, h2, _⟩ := mem p hp
    exact ⟨hc p h1, h2⟩
  · refine List.pairwise_map.mpr ?_
    refine (nd2.and (List.pairwise_map.mp pw)).imp fun {a b} h => lex_of h.1 h.2
  · refine List.pairwise_map.mpr ?_
    refine (List.pairwise_iff_forall_sublist.mpr fun {a b} hs => ?_ : L0.Pairwise _)
    have ha : a ∈ L0 := hs.subset List.mem_cons_self
    have hb : b ∈ L0 := hs.subset (List.mem_cons_of_mem _ List.mem_cons_self)
    have hne : a.2 ≠ b.2 := by
      have := nd2.sublist hs
      exact (List.pairwise_cons.mp this).1 b List.mem_cons_self
    obtain ⟨a1, a2, a3⟩ := mem a ha
    obtain ⟨b1, b2, b3⟩ := mem b hb
    refine ⟨fun e => a3 b b1 (fun z => hne z.symm) ((holds_iff (hc a a1) (hc b b1)).mp e) b2, fun e => b3 a a1 hne ((holds_iff (hc b b1) (hc a a1)).mp e) a2⟩
def forB : Stmt → List Stmt
  | .For _ _ b _ _ => b
  | _ => []
section
variable {P : Program} {w : World} {K : PySem.W.Frag} {mg : Str → Option Value} {base : Heap}
/-- a list of crowds -/
structure Hps (H : Hp) (x : Addr) (n : Nat) (ks : List (Addr × List Nat)) : Prop where
  top : H x = some (.lst (ks.map fun p => V.ref p.1))
  each : ∀ p ∈ ks, H p.1 = some (.tup (nums p.2))
  cr : ∀ p ∈ ks, Cr n p.2
def spLeast : Sp := fun vs H Q _ => ∃ (x : Addr) (n : Nat) (ks : List (Addr × List Nat)), vs = [.ref x] ∧ Hps H x n ks ∧ n ≤ 12 ∧ ks.length < 64 ∧ ∀ H' t ls, Same H H' → Rws H' t ls → Lots n (rows ls) → Q (.ref t) H'
abbrev nLeast : List Str := ["_law_heaps", "_law_found", "_law_heap", "_law_lesser", "_law_other", "_law_person"]
def getS (l : List Stmt) (i : Nat) : Stmt := l.getD i (.Pass ⟨0, 0, 0, 0⟩)
theorem ok_least (B : Bi mg) (h : Has K mg "_law_least_lots" (topS 47) ["_law_heaps"]) : Cal P w K mg base 1 "_law_least_lots" spLeast [] := by
  refine cal_of (N := nLeast) h (by decide +kernel) (fun vs H Q E h => ?_) (fun nd f cdv A outer s H vs Q E hr h => ?_)
  · obtain ⟨x, n, ks, rfl, _⟩ := h
    rfl
  · obtain ⟨x, n, ks, rfl, hk, hn, h64, q⟩ := h
    have hu64 := hr.units
    refine ⟨_, pss_cons (ps_set (i := 1) nd rfl (Or.inl rfl) (pe_lst pa_nil))
      (pss_cons (ps_for PassesOwn.never rfl (pi_list (pv 0)) (pg_name (i := 2) nd rfl (Or.inr rfl))
        (pss_cons (ps_setLc (i := 3) (own := [("_law_other", 4)]) (g := gName 4) rfl nd rfl rfl (sw_true rfl rfl rfl (by decide +kernel)) (pi_list (pv 0))
            (blkOk_by (own := [("_law_other", 4)]) (N := nLeast) (sc := fnScope (topS 47)) (by decide +kernel)) (fun _ _ _ _ _ => pg_name (i := 4) nd rfl (Or.inl rfl))
            (fun _ _ _ _ _ => pts_one (PW.pt (pw_and (pt_cmpR (neRow K hu64) (pv 4) (pv 2) (nomark _)) (pw_and1 (pt_val (pe_callB (allS K) (by rfl) B.all (by decide +kernel) (pa_cons
              (pe_lc (own := [("_law_person", 5)]) (g := gName 5) (tt := tYes) rfl nd (piT K (pv 4)) (blkOk_by (own := [("_law_person", 5)]) (N := nLeast)
                (sc := relS (lcS (asgE (getS (forB (getS (fnBody (topS 47)) 1)) 0))) (fnScope (topS 47))) (by decide +kernel)) (fun _ _ _ _ _ => pg_name (i := 5) nd rfl (Or.inl rfl)) (fun _ _ _ _ _ => pts_nil)
                (fun _ _ _ _ _ => pe_cmpR (inS K) (pv 5) (pv 2) (by rfl))) pa_nil)))))))
            (fun _ _ _ _ _ => pv 4))
        (pss_one (ps_if (PW.pt (pw_and (pt_cmpR op_gt (pe_callB call_len_seq (by rfl) B.len PySem.boot_len (pa_cons (pv 2) pa_nil)) pe_int (nomark _))
            (pw_and1 (pt_cmpR op_eq (pe_callB call_len_seq (by rfl) B.len PySem.boot_len (pa_cons
              (pe_lc (own := [("_law_other", 4)]) (g := gName 4) rfl nd (piL K (pv 3)) (blkOk_by (own := [("_law_other", 4)]) (N := nLeast) (sc := fnScope (topS 47)) (by decide +kernel))
                (fun _ _ _ _ _ => pg_name (i := 4) nd rfl (Or.inl rfl)) (fun _ _ _ _ _ => pts_one (pt_cmpR op_gt (pe_callB (lenS K) (by rfl) B.len PySem.boot_len (pa_cons (pv 4) pa_nil)) pe_int (nomark _)))
                (fun _ _ _ _ _ => pv 4)) pa_nil)) pe_int (nomark _)))))
          (pss_one (ps_expr (pe_bm PySem.F.plainAttrs_list PySem.F.slot_list_append PySem.F.type_list_append mt_append (pv 1) (pa_cons (pv 2) pa_nil)))) pss_nil))))
      (pss_one (ps_ret (pe_callTy call_tuple_of (by rfl) B.tuple (by decide +kernel) (pa_cons (pe_callB (cr_sortR rfl hu64) (by rfl) B.sorted (by decide +kernel)
        (pa_cons (pe_callTy (cr_setOfT rfl hu64) (by rfl) B.set (by decide +kernel) (pa_cons (pv 1) pa_nil)) pa_nil)) pa_nil))))), ?_⟩
    refine ⟨Nat.zero_le _, fun F hF => ?_⟩
    have a0 : Acc H F [] (upd H F (.lst [])) := acc_nil hF
    refine ⟨_, rfl, x, rfl, ⟨_, SqL.of (a0.sm _ _ hk.top)⟩, ?_⟩
    refine for_it (walk_list (xs := ks.map fun p => V.ref p.1)) (fun i σ H' => ∃ v2 v3, σ = [some (.ref x), some (.ref F), v2, v3, none, none] ∧ Acc H F (((ks.take i).filter (good ks)).map fun p => V.ref p.1) H')
      ⟨_, _, rfl, a0⟩ (fun i σ H' _ hp => ?_) (fun i y σ H0 H1 hi hp hy => ?_) (fun σ H1 hp => ?_)
    · obtain ⟨_, _, rfl, a⟩ := hp
      exact SqL.of (a.sm _ _ hk.top)
    · obtain ⟨v2, v3, rfl, a⟩ := hp
      obtain ⟨rfl, hy⟩ := hy
      obtain ⟨p, hp, rfl⟩ := ks_at hy
      have pm := List.mem_of_getElem? hp
      have x1 := a.sm _ _ hk.top
      refine ⟨_, rfl, x, rfl, ⟨_, SqL.of x1⟩, fun D1 hD1 => ?_⟩
      refine lc_it (walk_list (xs := ks.map fun p => V.ref p.1)) (fun j H2 => Acc H1 D1 (((ks.take j).filter (les p)).map fun p => V.ref p.1) H2) (acc_nil hD1) (fun _ _ _ b => SqL.of (b.sm _ _ x1)) (fun j y H2 H3 hj b hy => ?_) (fun H2 b => ?_)
      · obtain ⟨rfl, hy⟩ := hy
        obtain ⟨r, hr1, rfl⟩ := ks_at hy
        have rm := List.mem_of_getElem? hr1
        have r3 := b.sm _ _ (a.sm _ _ (hk.each r rm))
        have p3 := b.sm _ _ (a.sm _ _ (hk.each p pm))
        have hjl : j < ks.length := by rw [List.length_map] at hj; exact hj
        refine ⟨rfl, _, rfl, _, rfl, r.1, p.1, r.2, p.2, rfl, rfl, SqT.of r3, SqT.of p3, _, rfl, ?_⟩
        rw [filter_take _ hr1]
        cases hd : decide (r.2 = p.2) with
        | true =>
          have e : les p r = false := by
            unfold les
            rw [hd]
            rfl
          rw [e]
          simp only [Bool.false_eq_true, if_false, List.append_nil]
          refine iteF ?_
          exact b
        | false =>
          have e : les p r = r.2.all fun k => decide (k ∈ p.2) := by
            unfold les
            rw [hd]
            rfl
          rw [e]
          refine iteT ⟨_, rfl, r.1, rfl, ⟨_, SqT.of r3⟩, fun D2 hD2 => ?_⟩
          refine lc_it (walk_tup (xs := nums r.2)) (fun m H4 => Acc H3 D2 ((r.2.take m).map fun k => V.bl (decide (k ∈ p.2))) H4) (acc_nil hD2) (fun _ _ _ c => SqT.of (c.sm _ _ r3)) (fun m y H4 H5 hm c hy => ?_) (fun H4 c => ?_)
          · obtain ⟨rfl, hy⟩ := hy
            obtain ⟨k, hk1, rfl⟩ := nums_get hy
            refine ⟨rfl, _, rfl, _, rfl, p.1, _, rfl, .inr (SqT.of (c.sm _ _ p3)), rfl, nums_flat _, ?_⟩
            rw [inV_nums]
            rw [nums_len] at hm
            have := (hk.cr r rm).len
            refine c.put hD2 (by rw [List.length_map, List.length_take]; omega) ?_
            exact take_more (fun k => V.bl (decide (k ∈ p.2))) hk1
          · rw [nums_len, List.take_length] at c
            refine ⟨D2, r.2.map fun k => decide (k ∈ p.2), rfl, SqL.of (by rw [c.at_, List.map_map]; rfl), _, rfl, ?_⟩
            have z : (r.2.map fun k => decide (k ∈ p.2)).all id = r.2.all fun k => decide (k ∈ p.2) := by
              rw [List.all_map]
              rfl
            rw [z]
            have b4 := b.more c.sm
            cases r.2.all fun k => decide (k ∈ p.2) with
            | false =>
              simp only [Bool.false_eq_true, if_false, List.append_nil]
              exact b4
            | true =>
              refine iteT ⟨_, rfl, b4.put hD1 ?_ ?_⟩
              · rw [List.length_map]
                exact Nat.le_trans (List.length_filter_le _ _) (by rw [List.length_take]; omega)
              · rw [List.map_append]
                rfl
      · rw [List.length_map, List.take_length] at b
        have p2 := b.sm _ _ (a.sm _ _ (hk.each p pm))
        have a2 := a.more b.sm
        have hil : i < ks.length := by rw [List.length_map] at hi; exact hi
        refine ⟨_, rfl, p.1, _, rfl, .inr (SqT.of p2), _, _, rfl, rfl, _, rfl, ?_⟩
        rw [filter_take _ hp]
        by_cases h2 : 1 < p.2.length
        · have e : good ks p = ((ks.filter (les p)).filter two_).isEmpty := by
            unfold good two_
            rw [decide_eq_true h2]
            rfl
          rw [e]
          refine iteT' (decide_eq_true (by rw [nums_len]; omega)) ?_
          refine ⟨_, rfl, D1, rfl, ⟨_, SqL.of b.at_⟩, fun D2 hD2 => ?_⟩
          refine lc_it (walk_list (xs := (ks.filter (les p)).map fun p => V.ref p.1)) (fun j H3 => Acc H2 D2 ((((ks.filter (les p)).take j).filter two_).map fun p => V.ref p.1) H3) (acc_nil hD2) (fun _ _ _ c => SqL.of (c.sm _ _ b.at_)) (fun j y H3 H4 hj c hy => ?_) (fun H3 c => ?_)
          · obtain ⟨rfl, hy⟩ := hy
            obtain ⟨r, hr1, rfl⟩ := ks_at hy
            have rm := (List.mem_filter.mp (List.mem_of_getElem? hr1)).1
            have r3 := c.sm _ _ (b.sm _ _ (a.sm _ _ (hk.each r rm)))
            refine ⟨rfl, _, rfl, r.1, _, rfl, .inr (SqT.of r3), _, _, rfl, rfl, _, rfl, ?_⟩
            rw [filter_take _ hr1]
            have e2 : decide ((1 : Int) < ((nums r.2).length : Int)) = two_ r := by
              unfold two_
              rw [nums_len]
              exact decide_eq_decide.mpr ⟨fun z => by omega, fun z => by omega⟩
            rw [e2]
            cases two_ r with
            | false =>
              simp only [Bool.false_eq_true, if_false, List.append_nil]
              exact c
            | true =>
              refine iteT ⟨_, rfl, c.put hD2 ?_ ?_⟩
              · rw [List.length_map]
                exact Nat.le_trans (List.length_filter_le _ _) (by rw [List.length_take]; have := List.length_filter_le (les p) ks; omega)
              · rw [List.map_append]
                rfl
          · rw [List.length_map, List.take_length] at c
            have a3 := a2.more c.sm
            refine ⟨D2, _, rfl, .inl (SqL.of c.at_), rfl, _, rfl, ?_⟩
            rw [List.length_map]
            cases hg : (ks.filter (les p)).filter two_ with
            | nil =>
              refine iteT ⟨_, rfl, .inl ⟨rfl, _, SqL.of a3.at_⟩, _, rfl, F, _, _, rfl, rfl, a3.at_, ?_, ?_⟩
              · rw [List.length_map]
                exact szl (Nat.le_trans (List.length_filter_le _ _) (by rw [List.length_take]; omega))
              · refine ⟨_, _, rfl, fun c o e => ?_, ?_⟩
                · rw [upd_ne (ne_of_none e hF)]
                  exact a3.sm _ _ e
                · rw [upd_same, List.map_append]
                  rfl
            | cons u r =>
              refine iteF' (decide_eq_false fun z => ?_) ?_
              · have := V.int.inj z
                rw [List.length_cons] at this
                omega
              · show ∃ v2 v3, _ ∧ Acc H F (((ks.take i).filter (good ks) ++ []).map fun (p : Addr × List Nat) => V.ref p.1) H3
                rw [List.append_nil]
                exact ⟨_, _, rfl, a3⟩
        · have e : good ks p = false := by
            unfold good two_
            rw [decide_eq_false h2]
            rfl
          rw [e]
          refine iteF' (decide_eq_false (by rw [nums_len]; omega)) ?_
          simp only [Bool.false_eq_true, if_false, List.append_nil]
          exact ⟨_, _, rfl, a2⟩
    · obtain ⟨v2, v3, rfl, a⟩ := hp
      rw [List.length_map, List.take_length] at a
      have mem : ∀ p ∈ ks.filter (good ks), p ∈ ks ∧ 1 < p.2.length := fun p hp => by
        obtain ⟨h1, h2⟩ := List.mem_filter.mp hp
        unfold good at h2
        rw [Bool.and_eq_true] at h2
        exact ⟨h1, of_decide_eq_true h2.1⟩
      have tk : ∀ {H' : Hp} {L : List (Addr × List Int)}, Same H H' → (∀ p ∈ L, p ∈ (ks.filter (good ks)).map rowI) → ∀ p ∈ L, H' p.1 = some (.tup (p.2.map V.int)) := fun {H' L} s hL p hp => by
        obtain ⟨r, hr1, rfl⟩ := List.mem_map.mp (hL p hp)
        have := s _ _ (hk.each r (mem r hr1).1)
        rw [nums_map] at this
        exact this
      refine ⟨_, rfl, F, (ks.filter (good ks)).map rowI, rfl, SqL.of (by rw [a.at_, List.map_map]; rfl), fun p hp => SqT.of (tk a.sm (fun _ h => h) p hp), ?_, fun S L hS hL1 hL2 => ?_⟩
      · rw [List.length_map]
        exact Nat.lt_of_le_of_lt (List.length_filter_le _ _) h64
      · have s2 := a.sm.trans (same_new (o := SetTO P w S L) hS)
        refine ⟨S, L, rfl, upd_same, fun p hp => SqT.of (tk s2 hL1 p hp), fun p hp e => ?_, fun L' u pm nd h64' pw hu1 => ?_⟩
        · obtain ⟨r, hr1, rfl⟩ := List.mem_map.mp (hL1 p hp)
          have := (mem r hr1).2
          have z := congrArg List.length e
          unfold rowI at z
          rw [List.length_map, List.length_nil] at z
          omega
        · obtain ⟨L0, rfl, h0⟩ := rowI_lift (gs := ks.filter (good ks)) (L := L') fun p hp => hL1 p (pm.mem_iff.mp hp)
          refine ⟨u, _, rfl, .inl ⟨SqL.of upd_same, fun t ht => ?_⟩⟩
          have s3 := (s2.trans (same_new (o := .lst ((L0.map rowI).map fun (q : Addr × List Int) => V.ref q.1)) hu1)).trans (same_new (o := .tup ((L0.map rowI).map fun (q : Addr × List Int) => V.ref q.1)) ht)
          refine q _ t L0 s3 ⟨?_, fun p hp => s3 _ _ (hk.each p (mem p (h0 p hp)).1)⟩ (least_lots hk.cr h0 nd pw)
          rw [upd_same, List.map_map]
          rfl
end
end Lk
/-! Drawn heaps. -/
namespace Lk
open PySem PySem.Spec PyProof.Rows L2 C8
theorem But.tup {h c a : Addr} {H H' : Hp} {xs : List V} (b : But h H H') (hh : HandAt H h c) (e : H a = some (.tup xs)) : H' a = some (.tup xs) := by
  obtain ⟨ys, hy⟩ := hh.lst
  exact b _ _ (ne_of e hy (by intro z; cases z)) e
theorem But.rws {h c t : Addr} {H H' : Hp} {ks : List (Addr × List Nat)} (b : But h H H') (hh : HandAt H h c) (e : Rws H t ks) : Rws H' t ks := ⟨b.tup hh e.top, fun p hp => b.tup hh (e.each p hp)⟩
theorem Hps.but {h c x n : Nat} {H H' : Hp} {ks : List (Addr × List Nat)} (e : Hps H x n ks) (b : But h H H') (hh : HandAt H h c) (hx : x ≠ h) : Hps H' x n ks := ⟨b _ _ hx e.top, fun p hp => b.tup hh (e.each p hp), e.cr⟩
theorem Hps.same {x n : Nat} {H H' : Hp} {ks : List (Addr × List Nat)} (e : Hps H x n ks) (s : Same H H') : Hps H' x n ks := ⟨s _ _ e.top, fun p hp => s _ _ (e.each p hp), e.cr⟩
theorem Hps.put {x n t : Nat} {H : Hp} {ks : List (Addr × List Nat)} {ns : List Nat} (e : Hps H x n ks) (ht : H t = some (.tup (nums ns))) (hc : Cr n ns) : Hps (upd H x (.lst ((ks.map fun (p : Addr × List Nat) => V.ref p.1) ++ [V.ref t]))) x n (ks ++ [(t, ns)]) := by
  refine ⟨by rw [upd_same, List.map_append]; rfl, fun p hp => ?_, fun p hp => ?_⟩
  · rcases List.mem_append.mp hp with z | z
    · rw [upd_ne (ne_of (e.each p z) e.top (by intro z; cases z))]
      exact e.each p z
    · rw [List.mem_singleton.mp z, upd_ne (ne_of ht e.top (by intro z; cases z))]
      exact ht
  · rcases List.mem_append.mp hp with z | z
    · exact e.cr p z
    · rw [List.mem_singleton.mp z]
      exact hc
theorem ints_lift {ns : List Int} {ds : List Nat} (pw : ns.Pairwise (· < ·)) (h : ∀ k : Int, k ∈ ns → k ∈ ds.map fun (d : Nat) => (d : Int)) : ∃ ms : List Nat, ns = ms.map (fun (d : Nat) => (d : Int)) ∧ ms.Pairwise (· < ·) ∧ ∀ k ∈ ms, k ∈ ds := by
  have nn : ∀ k ∈ ns, ∃ d ∈ ds, ((d : Nat) : Int) = k := fun k hk => List.mem_map.mp (h k hk)
  have e : ns = (ns.map Int.toNat).map fun (d : Nat) => (d : Int) := by
    rw [List.map_map]
    refine (List.map_id ns).symm.trans (List.map_congr_left fun k hk => ?_)
    obtain ⟨d, _, rfl⟩ := nn k hk
    rfl
  refine ⟨ns.map Int.toNat, e, ?_, fun k hk => ?_⟩
  · refine List.pairwise_map.mpr (List.Pairwise.imp_of_mem (fun {a b} ha hb hab => ?_) pw)
    obtain ⟨d, _, rfl⟩ := nn a ha
    obtain ⟨d2, _, rfl⟩ := nn b hb
    exact Int.ofNat_lt.mp hab
  · obtain ⟨z, hz, rfl⟩ := List.mem_map.mp hk
    obtain ⟨d, hd, rfl⟩ := nn z hz
    exact hd
section
variable {P : Program} {w : World} {K : PySem.W.Frag} {mg : Str → Option Value} {base : Heap}
def spSome : Sp := fun vs H Q _ => ∃ (h c : Addr) (n : Nat), vs = [.ref h, .int (n : Int), .int 8] ∧ HandAt H h c ∧ 1 ≤ n ∧ n ≤ 6 ∧ ∀ H' t ls, But h H H' → HandAt H' h c → Rws H' t ls → Lots n (rows ls) → Q (.ref t) H'
abbrev nSome : List Str := ["_law_hand_here", "_law_people_here", "_law_limit", "_law_heaps", "_law_turn", "_law_size", "_law_k"]
theorem sizes_at {k : Nat} (h : k < 8) : ∃ z, ([2, 2, 2, 3, 3, 4, 2, 5] : List Nat)[k]? = some z ∧ z ≤ 5 := by
  refine ⟨_, List.getElem?_eq_getElem h, ?_⟩
  have : ∀ z ∈ ([2, 2, 2, 3, 3, 4, 2, 5] : List Nat), z ≤ 5 := by decide
  exact this _ (List.getElem_mem h)
theorem ok_some (B : Bi mg) (h : Has K mg "_law_some_lots" (topS 48) ["_law_hand_here", "_law_people_here", "_law_limit"]) (c1 : Cal P w K mg base 1 "_law_draw" spDraw []) (c2 : Cal P w K mg base 1 "_law_least_lots" spLeast []) : Cal P w K mg base 2 "_law_some_lots" spSome [] := by
  refine cal_of (N := nSome) h (by decide +kernel) (fun vs H Q E h => ?_) (fun nd f cdv A outer s H vs Q E hr h => ?_)
  · obtain ⟨a, c, n, rfl, _⟩ := h
    rfl
  · obtain ⟨h, c, n, rfl, hh, h1, h6, q⟩ := h
    refine ⟨_, pss_cons (ps_set (i := 3) nd rfl (Or.inl rfl) (pe_lst pa_nil))
      (pss_cons (ps_for PassesOwn.never rfl (pi_range1 (by rfl) B.range (pa_cons (pe_c c1 hr (by decide) (by rfl) (pa_cons (pv 0) (pa_cons (pe_op op_add (pv 2) pe_int) pa_nil))) pa_nil)) (pg_name (i := 4) nd rfl (Or.inl rfl))
        (pss_cons (ps_set (i := 5) nd rfl (Or.inl rfl) (pe_ix ix_list (pe_lst (pa_cons pe_int (pa_cons pe_int (pa_cons pe_int (pa_cons pe_int (pa_cons pe_int (pa_cons pe_int (pa_cons pe_int (pa_cons pe_int pa_nil)))))))))
            (pe_c c1 hr (by decide) (by rfl) (pa_cons (pv 0) (pa_cons pe_int pa_nil))) (fun _ _ => rfl)))
        (pss_one (ps_expr (pe_bm PySem.F.plainAttrs_list PySem.F.slot_list_append PySem.F.type_list_append mt_append (pv 3) (pa_cons
          (pe_callTy call_tuple_of (by rfl) B.tuple (by decide +kernel) (pa_cons (pe_callB (cr_sortedSet rfl) (by rfl) B.sorted (by decide +kernel) (pa_cons (pe_callTy (cr_setL rfl) (by rfl) B.set (by decide +kernel) (pa_cons
            (pe_lc (own := [("_law_k", 6)]) (g := gName 6) (tt := tYes) rfl nd (pi_range1 (by rfl) B.range (pa_cons (pv 5) pa_nil)) (blkOk_by (own := [("_law_k", 6)]) (N := nSome) (sc := fnScope (topS 48)) (by decide +kernel))
              (fun _ _ _ _ _ => pg_name (i := 6) nd rfl (Or.inl rfl)) (fun _ _ _ _ _ => pts_nil) (fun _ _ _ _ _ => pe_c c1 hr (by decide) (by rfl) (pa_cons (pv 0) (pa_cons (pv 1) pa_nil)))) pa_nil)) pa_nil)) pa_nil)) pa_nil))))))
      (pss_one (ps_ret (pe_c c2 hr (by decide) (by rfl) (pa_cons (pv 3) pa_nil))))), ?_⟩
    refine ⟨Nat.zero_le _, fun X hX => ?_⟩
    have nX := hh.new hX
    have hh1 := hh.put (o := .lst []) nX
    have p1 : Hps (upd H X (.lst [])) X n [] := ⟨upd_same, fun p hp => absurd hp List.not_mem_nil, fun p hp => absurd hp List.not_mem_nil⟩
    have bt1 : But h H (upd H X (.lst [])) := Same.but (same_new hX)
    refine ⟨_, rfl, _, rfl, _, _, rfl, rfl, h, c, 9, rfl, hh1, by decide, by decide, fun H2 m b2 hh2 hm => ⟨_, rfl, by omega, by omega, ?_⟩⟩
    rw [Int.toNat_natCast]
    refine for_it walk_r0 (fun i σ H' => ∃ v4 v5 ks, σ = [some (.ref h), some (.int (n : Int)), some (.int 8), some (.ref X), v4, v5, none] ∧ But h H H' ∧ HandAt H' h c ∧ Hps H' X n ks ∧ ks.length = i)
      ⟨_, _, [], rfl, bt1.trans b2, hh2, p1.but b2 hh1 nX.1, rfl⟩ (fun i σ H' _ hp => trivial) (fun i x σ H0 H3 hi hp hy => ?_) (fun σ H3 hp => ?_)
    · obtain ⟨rfl, rfl⟩ := hy
      obtain ⟨v4, v5, ks, rfl, bb, hh3, hp, lk⟩ := hp
      -- the size
      refine ⟨by show 8 ≤ sizeLine; decide, fun S hS => ?_⟩
      have hh4 := hh3.put (o := .lst [.int 2, .int 2, .int 2, .int 3, .int 3, .int 4, .int 2, .int 5]) (hh3.new hS)
      have s4 := same_new (o := .lst [.int 2, .int 2, .int 2, .int 3, .int 3, .int 4, .int 2, .int 5]) hS
      refine ⟨_, rfl, h, c, 8, rfl, hh4, by decide, by decide, fun H5 k b5 hh5 hk => ?_⟩
      obtain ⟨z, hz, z5⟩ := sizes_at hk
      have b35 : But h H3 H5 := (Same.but s4).trans b5
      refine ⟨S, nums [2, 2, 2, 3, 3, 4, 2, 5], (k : Int), .int (z : Int), rfl, rfl, SqL.of (b5 _ _ (hh3.new hS).1 upd_same), atI_nat (nums_at hz), ?_⟩
      have hp5 := hp.but b35 hh3 nX.1
      -- the heap
      refine ⟨_, rfl, .inl ⟨rfl, _, SqL.of hp5.top⟩, _, rfl, _, rfl, by omega, by omega, fun D hD => ?_⟩
      rw [Int.toNat_natCast]
      have nD := hh5.new hD
      refine lc_it (walk_r0 (n := z)) (fun j H' => ∃ ds : List Nat, But h H5 H' ∧ HandAt H' h c ∧ H' D = some (.lst (nums ds)) ∧ ds.length = j ∧ ∀ d ∈ ds, d < n)
        ⟨[], Same.but (same_new hD), hh5.put nD, upd_same, rfl, fun d hd => absurd hd List.not_mem_nil⟩ (fun _ _ _ _ => trivial) (fun j y H6 H7 hj a hy => ?_) (fun H6 a => ?_)
      · obtain ⟨rfl, rfl⟩ := hy
        obtain ⟨ds, bd, hh6, d6, ld, hd⟩ := a
        refine ⟨rfl, _, rfl, _, rfl, h, c, n, rfl, hh6, by omega, by omega, fun H8 e b8 hh8 he => ?_⟩
        have d8 := b8 _ _ nD.1 d6
        refine ⟨_, d8, by rw [nums_len]; exact szl (by omega), ds ++ [e], put_but (bd.trans b8) hD, hh8.put nD, by rw [upd_same, nums_app]; rfl, by rw [List.length_append, ld]; rfl, fun d hd2 => ?_⟩
        rcases List.mem_append.mp hd2 with u | u
        · exact hd d u
        · rw [List.mem_singleton.mp u]
          exact he
      · obtain ⟨ds, bd, hh6, d6, ld, hd⟩ := a
        refine ⟨D, ds.map fun (d : Nat) => (d : Int), rfl, SqL.of (by rw [d6, nums_map]), by rw [List.length_map]; omega, fun S2 cc hS2 hcc => ?_⟩
        rw [List.length_map] at hcc
        refine ⟨S2, _, cc, rfl, upd_same, by omega, fun ns p pw hns _ hp2 => ?_⟩
        obtain ⟨ms, rfl, mp, mm⟩ := ints_lift pw (fun k hk => of_decide_eq_true ((hns k).mp hk))
        refine ⟨p, _, rfl, .inl ⟨SqL.of upd_same, fun t ht => ?_⟩⟩
        have s9 := ((same_new (o := SetO w S2 (fun j => decide (j ∈ ds.map fun (d : Nat) => (d : Int))) cc) hS2).trans (same_new (o := .lst ((ms.map fun (d : Nat) => (d : Int)).map V.int)) hp2)).trans (same_new (o := .tup ((ms.map fun (d : Nat) => (d : Int)).map V.int)) ht)
        have hp9 := (hp5.but bd hh5 nX.1).same s9
        refine ⟨X, _, _, rfl, rfl, hp9.top, by rw [List.length_map]; exact szl (by omega), ?_⟩
        refine ⟨_, _, ks ++ [(t, ms)], rfl, ?_, (hh6.same s9).put nX, hp9.put (by rw [upd_same, nums_map]) ⟨fun k hk => hd k (mm k hk), mp⟩, by rw [List.length_append, lk]; rfl⟩
        exact put_but (((bb.trans b35).trans bd).trans (Same.but s9)) hX
    · obtain ⟨v4, v5, ks, rfl, bb, hh3, hp, lk⟩ := hp
      refine ⟨_, rfl, X, n, ks, rfl, hp, by omega, by omega, fun H4 t ls s4 ht hl => q H4 t ls (bb.trans (Same.but s4)) (hh3.same s4) ht hl⟩
end
end Lk
/-! All parts of a row. -/
namespace Lk
open PySem PySem.Spec PyProof.Rows L2 C8
def fits (part : List Nat) (p : Nat) : Bool := decide (part = []) || decide (part.getLastD 0 < p)
def ext (row part : List Nat) : List (List Nat) := (row.filter (fits part)).map fun p => part ++ [p]
def parts (row : List Nat) : Nat → List (List Nat)
  | 0 => [[]]
  | k + 1 => (parts row k).flatMap (ext row)
theorem parts_few : ((List.range 64).all fun m => (List.range 4).all fun k => decide ((parts (cr m) k).length ≤ 20)) = true := by decide +kernel
theorem parts20 {m k : Nat} (h : m < 64) (hk : k ≤ 3) : (parts (cr m) k).length ≤ 20 :=
  of_decide_eq_true (List.all_eq_true.mp (List.all_eq_true.mp parts_few m (List.mem_range.mpr h)) k (List.mem_range.mpr (by omega)))
theorem parts_ok {row : List Nat} : ∀ {k : Nat} {l : List Nat}, l ∈ parts row k → l.Pairwise (· < ·) ∧ (∀ x ∈ l, x ∈ row) ∧ l.length = k
  | 0, l, h => by
    rw [List.mem_singleton.mp h]
    exact ⟨.nil, fun x hx => absurd hx List.not_mem_nil, rfl⟩
  | k + 1, l, h => by
    obtain ⟨part, hp, he⟩ := List.mem_flatMap.mp h
    obtain ⟨p, hp2, rfl⟩ := List.mem_map.mp he
    obtain ⟨hr, hf⟩ := List.mem_filter.mp hp2
    obtain ⟨h1, h2, h3⟩ := parts_ok hp
    refine ⟨?_, fun x hx => ?_, by rw [List.length_append, h3]; rfl⟩
    · rw [List.pairwise_append]
      refine ⟨h1, List.pairwise_singleton _ _, fun a ha b hb => ?_⟩
      rw [List.mem_singleton.mp hb]
      unfold fits at hf
      have hne : part ≠ [] := fun e => by
        rw [e] at ha
        exact absurd ha List.not_mem_nil
      rw [decide_eq_false hne, Bool.false_or] at hf
      have hl := of_decide_eq_true hf
      obtain ⟨ini, last, rfl⟩ : ∃ ini last, part = ini ++ [last] := ⟨part.dropLast, part.getLast hne, (List.dropLast_concat_getLast hne).symm⟩
      have el : (ini ++ [last]).getLastD 0 = last := by simp
      rw [el] at hl
      rcases List.mem_append.mp ha with z | z
      · have := (List.pairwise_append.mp h1).2.2 a z last List.mem_cons_self
        omega
      · rw [List.mem_singleton.mp z]
        exact hl
    · rcases List.mem_append.mp hx with z | z
      · exact h2 x z
      · rw [List.mem_singleton.mp z]
        exact hr
/-- a list of rows -/
structure PL (H : Hp) (x : Addr) (ks : List (Addr × List Nat)) : Prop where
  top : H x = some (.lst (ks.map fun p => V.ref p.1))
  each : ∀ p ∈ ks, H p.1 = some (.tup (nums p.2))
theorem PL.same {x : Addr} {H H' : Hp} {ks : List (Addr × List Nat)} (e : PL H x ks) (s : Same H H') : PL H' x ks := ⟨s _ _ e.top, fun p hp => s _ _ (e.each p hp)⟩
theorem PL.app {x : Addr} {H : Hp} {ks gs : List (Addr × List Nat)} (e : PL H x ks) (g : ∀ p ∈ gs, H p.1 = some (.tup (nums p.2))) : PL (upd H x (.lst ((ks.map fun (p : Addr × List Nat) => V.ref p.1) ++ gs.map fun (p : Addr × List Nat) => V.ref p.1))) x (ks ++ gs) := by
  refine ⟨by rw [upd_same, List.map_append], fun p hp => ?_⟩
  have hp2 : H p.1 = some (.tup (nums p.2)) := by
    rcases List.mem_append.mp hp with z | z
    · exact e.each p z
    · exact g p z
  rw [upd_ne (ne_of hp2 e.top (by intro z; cases z))]
  exact hp2
section
variable {P : Program} {w : World} {K : PySem.W.Frag} {mg : Str → Option Value} {base : Heap}
def spParts : Sp := fun vs H Q _ => ∃ (r m k : Nat), vs = [.ref r, .int (k : Int)] ∧ H r = some (.lst (nums (cr m))) ∧ m < 64 ∧ k ≤ 3 ∧ ∀ H' x ks, Same H H' → PL H' x ks → rows ks = parts (cr m) k → Q (.ref x) H'
abbrev nParts : List Str := ["_law_row", "_law_size", "_law_found", "_law_k", "_law_longer", "_law_part", "_law_person"]
theorem ok_parts (B : Bi mg) (h : Has K mg "_law_parts_of" (topS 49) ["_law_row", "_law_size"]) : Cal P w K mg base 1 "_law_parts_of" spParts [] := by
  refine cal_of (N := nParts) h (by decide +kernel) (fun vs H Q E h => ?_) (fun nd f cdv A outer s H vs Q E hr h => ?_)
  · obtain ⟨r, m, k, rfl, _⟩ := h
    rfl
  · obtain ⟨r, m, k, rfl, hrow, hm, hk, q⟩ := h
    have hu64 := hr.units
    refine ⟨_, pss_cons (ps_set (i := 2) nd rfl (Or.inl rfl) (pe_lst (pa_cons (pe_tup pa_nil) pa_nil)))
      (pss_cons (ps_for PassesOwn.never rfl (pi_range1 (by rfl) B.range (pa_cons (pv 1) pa_nil)) (pg_name (i := 3) nd rfl (Or.inl rfl))
        (pss_cons (ps_set (i := 4) nd rfl (Or.inl rfl) (pe_lst pa_nil))
        (pss_cons (ps_for PassesOwn.never rfl (pi_list (pv 2)) (pg_name (i := 5) nd rfl (Or.inr rfl))
          (pss_one (ps_expr (pe_bm PySem.F.plainAttrs_list PySem.F.slot_list_extend PySem.F.type_list_extend mt_extend (pv 4) (pa_cons
            (pe_lc (own := [("_law_person", 6)]) (g := gName 6) rfl nd (piL K (pv 0)) (blkOk_by (own := [("_law_person", 6)]) (N := nParts) (sc := fnScope (topS 49)) (by decide +kernel))
              (fun _ _ _ _ _ => pg_name (i := 6) nd rfl (Or.inl rfl))
              (fun _ _ _ _ _ => pts_one (PW.pt (pw_or (pt_cmpR (eqRow K hu64) (pv 5) (pe_tup pa_nil) (nomark _)) (pw_or1 (pt_cmpR op_gt (pv 6) (pe_ix (ixT K) (pv 5) (pe_un un_neg pe_int) (fun _ _ => rfl)) (nomark _))))))
              (fun _ _ _ _ _ => pe_op (catS K) (pv 5) (pe_tup (pa_cons (pv 6) pa_nil)))) pa_nil)))))
        (pss_one (ps_set (i := 2) nd rfl (Or.inl rfl) (pv 4))))))
      (pss_one (ps_ret (pv 2)))), ?_⟩
    refine ⟨by show 0 ≤ sizeLine; decide, fun T hT => ⟨by show 1 ≤ sizeLine; decide, fun F hF => ?_⟩⟩
    have s0 := (same_new (o := .tup []) hT).trans (same_new (o := .lst [V.ref T]) hF)
    have nTF : T ≠ F := ne_of_none upd_same hF
    have p0 : PL (upd (upd H T (.tup [])) F (.lst [V.ref T])) F [(T, [])] := ⟨upd_same, fun p hp => by
      rw [List.mem_singleton.mp hp, upd_ne nTF]
      exact upd_same⟩
    refine ⟨_, rfl, _, rfl, by omega, by omega, ?_⟩
    rw [Int.toNat_natCast]
    refine for_it walk_r0 (fun i σ H' => ∃ v3 v4 v5 F ks, σ = [some (.ref r), some (.int (k : Int)), some (.ref F), v3, v4, v5, none] ∧ Same H H' ∧ PL H' F ks ∧ rows ks = parts (cr m) i)
      ⟨_, _, _, F, _, rfl, s0, p0, rfl⟩ (fun i σ H' _ hp => trivial) (fun i y σ H0 H1 hi hp hy => ?_) (fun σ H1 hp => ?_)
    · obtain ⟨rfl, rfl⟩ := hy
      obtain ⟨v3, v4, v5, F, ks, rfl, s1, pl, er⟩ := hp
      refine ⟨Nat.zero_le _, fun G hG => ?_⟩
      have s2 := same_new (o := .lst []) hG
      refine ⟨_, rfl, F, rfl, ⟨_, SqL.of (s2 _ _ pl.top)⟩, ?_⟩
      have lk : ks.length ≤ 20 := by
        have := congrArg List.length er
        rw [List.length_map] at this
        have := parts20 hm (show i ≤ 3 by omega)
        omega
      refine for_it (walk_list (xs := ks.map fun p => V.ref p.1)) (fun j σ H' => ∃ v5 gs, σ = [some (.ref r), some (.int (k : Int)), some (.ref F), some (.int (i : Int)), some (.ref G), v5, none] ∧ Same H1 H' ∧ PL H' G gs ∧ rows gs = ((rows ks).take j).flatMap (ext (cr m)) ∧ gs.length ≤ j * 12)
        ⟨_, [], rfl, s2, ⟨upd_same, fun p hp => absurd hp List.not_mem_nil⟩, rfl, Nat.zero_le _⟩ (fun j σ H' _ hp => ?_) (fun j y σ H2 H3 hj hp hy => ?_) (fun σ H2 hp => ?_)
      · obtain ⟨_, _, _, s3, _⟩ := hp
        exact SqL.of (s3 _ _ pl.top)
      · obtain ⟨v5', gs, rfl, s3, pg, eg, lg⟩ := hp
        obtain ⟨rfl, hy⟩ := hy
        obtain ⟨p, hp, rfl⟩ := ks_at hy
        have hp3 := s3 _ _ (pl.each p (List.mem_of_getElem? hp))
        have hr3 := s3 _ _ (s1 _ _ hrow)
        have l12 : (cr m).length ≤ 12 := (cr_ok (n := 12) (Nat.lt_of_lt_of_le hm (by decide))).len
        have hjl : j < ks.length := by rw [List.length_map] at hj; exact hj
        refine ⟨_, rfl, .inl ⟨rfl, _, SqL.of pg.top⟩, _, rfl, r, rfl, ⟨_, SqL.of hr3⟩, fun D hD => ?_⟩
        refine lc_it (walk_list (xs := nums (cr m))) (fun t H' => ∃ ds, Same H3 H' ∧ PL H' D ds ∧ rows ds = (((cr m).take t).filter (fits p.2)).map fun u => p.2 ++ [u])
          ⟨[], same_new hD, ⟨upd_same, fun p hp => absurd hp List.not_mem_nil⟩, rfl⟩ (fun t H' _ a => by obtain ⟨ds, a, _⟩ := a; exact SqL.of (a _ _ hr3)) (fun t y H4 H5 ht a hy => ?_) (fun H4 a => ?_)
        · obtain ⟨ds, s5, pd, ed⟩ := a
          obtain ⟨rfl, hy⟩ := hy
          obtain ⟨u, hu, rfl⟩ := nums_get hy
          have p5 := s5 _ _ hp3
          rw [nums_len] at ht
          have ld : ds.length ≤ 12 := by
            have := congrArg List.length ed
            rw [List.length_map, List.length_map] at this
            have := List.length_filter_le (fits p.2) ((cr m).take t)
            rw [List.length_take] at this
            omega
          rw [filter_take _ hu]
          have fin : ∀ H6 t2, Same H5 H6 → H6 t2 = some (.tup (nums (p.2 ++ [u]))) → ∃ acc, H6 D = some (.lst acc) ∧ acc.length < sizeLine ∧ ∃ ds, Same H3 (upd H6 D (.lst (acc ++ [V.ref t2]))) ∧ PL (upd H6 D (.lst (acc ++ [V.ref t2]))) D ds ∧
              rows ds = (((cr m).take t).filter (fits p.2) ++ [u]).map fun u => p.2 ++ [u] := fun H6 t2 s6 e6 => by
            have pd6 := pd.same s6
            refine ⟨_, pd6.top, by rw [List.length_map]; exact szl (by omega), ds ++ [(t2, p.2 ++ [u])], fun c o e => ?_, pd6.app (gs := [(t2, p.2 ++ [u])]) (fun q hq => ?_), ?_⟩
            · rw [upd_ne (ne_of_none e hD)]
              exact s6 _ _ (s5 _ _ e)
            · rw [List.mem_singleton.mp hq]
              exact e6
            · unfold rows at ed ⊢
              rw [List.map_append, ed, List.map_append]
              rfl
          have elt : ∀ {H6 : Hp} {σ : L2.St} {Q' : VK}, Same H5 H6 → (∀ H7 t2, Same H6 H7 → H7 t2 = some (.tup (nums (p.2 ++ [u]))) → Q' (.ref t2) H7) → (∀ Q2 : VK, Q2 (.int (u : Int)) H6 → Q2 (.int (u : Int)) H6) →
              ∀ T3, H6 T3 = none → rCatA K (.ref p.1) (.ref T3) (upd H6 T3 (.tup [.int (u : Int)])) Q' := fun {H6 σ Q'} s6 hq _ T3 hT3 => by
            have s7 := same_new (o := .tup [V.int (u : Int)]) hT3
            have p7 := s7 _ _ (s6 _ _ p5)
            refine ⟨p.1, T3, _, _, rfl, rfl, SqT.of p7, SqT.of upd_same, ?_, fun e => ?_, (fun _ z => nomatch z), fun _ _ t2 ht2 => ?_⟩
            · have := (parts_ok (row := cr m) (k := i) (l := p.2) (by rw [← er]; exact List.mem_map.mpr ⟨p, List.mem_of_getElem? hp, rfl⟩)).2.2
              rw [nums_len, this]
              exact szl' (by show i + 1 ≤ 100000; omega)
            · refine hq _ T3 s7 ?_
              rw [upd_same, nums_app, e]
              rfl
            · refine hq _ t2 (s7.trans (same_new ht2)) ?_
              rw [upd_same, nums_app]
              rfl
          refine ⟨rfl, _, rfl, by show 0 ≤ sizeLine; decide, fun T2 hT2 => ⟨p.1, T2, p.2, [], rfl, rfl, SqT.of (same_new hT2 _ _ p5), SqT.of upd_same, _, rfl, ?_⟩⟩
          have s6 := same_new (o := .tup []) hT2
          by_cases h0 : p.2 = []
          · have ef : fits p.2 u = true := by
              unfold fits
              rw [decide_eq_true h0]
              rfl
            rw [ef]
            refine iteT' (decide_eq_true h0) ?_
            refine ⟨_, rfl, _, rfl, by show 1 ≤ sizeLine; decide, fun T3 hT3 => elt (σ := []) s6 (fun H7 t2 s7 e7 => fin H7 t2 (s6.trans s7) e7) (fun _ h => h) T3 hT3⟩
          · refine iteF' (decide_eq_false h0) ?_
            obtain ⟨ini, last, hl⟩ : ∃ ini last, p.2 = ini ++ [last] := ⟨p.2.dropLast, p.2.getLast h0, (List.dropLast_concat_getLast h0).symm⟩
            have ef : fits p.2 u = decide (last < u) := by
              unfold fits
              rw [decide_eq_false h0, Bool.false_or, hl]
              simp
            rw [ef]
            refine ⟨_, rfl, _, rfl, 1, rfl, p.1, _, -1, .int (last : Int), rfl, rfl, SqT.of (s6 _ _ p5), ?_, _, _, rfl, rfl, _, rfl, ?_⟩
            · rw [hl, nums_app]
              exact atI_last _ _
            · by_cases hlu : last < u
              · rw [decide_eq_true hlu]
                refine iteT' (decide_eq_true (by omega)) ?_
                refine ⟨_, rfl, _, rfl, by show 1 ≤ sizeLine; decide, fun T3 hT3 => elt (σ := []) s6 (fun H7 t2 s7 e7 => fin H7 t2 (s6.trans s7) e7) (fun _ h => h) T3 hT3⟩
              · rw [decide_eq_false hlu]
                refine iteF' (decide_eq_false (by omega)) ?_
                simp only [Bool.false_eq_true, if_false, List.append_nil]
                exact ⟨ds, s5.trans s6, pd.same s6, ed⟩
        · obtain ⟨ds, s5, pd, ed⟩ := a
          rw [nums_len, List.take_length] at ed
          have ld : ds.length ≤ 12 := by
            have := congrArg List.length ed
            rw [List.length_map, List.length_map] at this
            have := List.length_filter_le (fits p.2) (cr m)
            omega
          have pg4 := pg.same s5
          refine ⟨G, D, _, _, rfl, rfl, pg4.top, pd.top, ?_, some (.ref p.1), gs ++ ds, rfl, fun c o e => ?_, pg4.app pd.each, ?_, by rw [List.length_append]; omega⟩
          · rw [List.length_map, List.length_map]
            exact szl' (by omega)
          · rw [upd_ne (ne_of_none e hG)]
            exact s5 _ _ (s3 _ _ e)
          · unfold rows at eg ed ⊢
            rw [List.map_append, eg, ed, List.take_add_one, List.getElem?_map, hp, List.flatMap_append]
            congr 1
            show _ = List.flatMap (ext (cr m)) [p.2]
            rw [List.flatMap_cons, List.flatMap_nil, List.append_nil]
            rfl
      · obtain ⟨v5', gs, rfl, s3, pg, eg, lg⟩ := hp
        refine ⟨_, rfl, _, _, _, G, gs, rfl, s1.trans s3, pg, ?_⟩
        rw [eg, List.length_map, List.take_of_length_le (by rw [List.length_map]; exact Nat.le_refl _), er]
        rfl
    · obtain ⟨v3, v4, v5, F, ks, rfl, s1, pl, er⟩ := hp
      exact ⟨_, rfl, q _ F ks s1 pl er⟩
end
end Lk
/-! The lots that are drawn. -/
namespace Lk
open PySem PySem.Spec PyProof.Rows L2 C8
theorem HandAt.neP {H : Hp} {h c x : Addr} {ks : List (Addr × List Nat)} (hh : HandAt H h c) (e : H x = some (.lst (ks.map fun p => V.ref p.1))) : x ≠ h := by
  obtain ⟨cells, i, a, b, d, D⟩ := hh
  intro z
  rw [z, D.at_] at e
  have e2 := HO.lst.inj (Option.some.inj e)
  match ks, e2 with
  | [], e2 => cases e2
  | [_], e2 => cases e2
  | _ :: _ :: _, e2 =>
    have := (List.cons.inj (List.cons.inj e2).2).1
    cases this
theorem cr63 : cr 63 = List.range 6 := by decide +kernel
def okB (l : List Nat) : Bool := l.all (fun x => decide (x < 6)) && decide (2 ≤ l.length)
theorem threes_ok : ((parts (cr 63) 3).all okB) = true := by decide +kernel
theorem threes_pw : (parts (cr 63) 3).Pairwise (fun a b => (lex a b && (!decide (bn a &&& bn b = bn b) && !decide (bn b &&& bn a = bn a))) = true) := by decide +kernel
theorem threes_lots {ks : List (Addr × List Nat)} (h : (rows ks).Sublist (parts (cr 63) 3)) : Lots 6 (rows ks) := by
  refine ⟨fun l hl => ?_, (threes_pw.sublist h).imp fun {a b} z => ?_, (threes_pw.sublist h).imp fun {a b} z => ?_⟩
  · have hm := h.subset hl
    have := List.all_eq_true.mp threes_ok l hm
    unfold okB at this
    rw [Bool.and_eq_true] at this
    exact ⟨⟨fun x hx => of_decide_eq_true (List.all_eq_true.mp this.1 x hx), (parts_ok hm).1⟩, of_decide_eq_true this.2⟩
  · rw [Bool.and_eq_true] at z
    exact z.1
  · rw [Bool.and_eq_true, Bool.and_eq_true] at z
    refine ⟨fun e => ?_, fun e => ?_⟩
    · have := z.2.1
      rw [decide_eq_true e] at this
      cases this
    · have := z.2.2
      rw [decide_eq_true e] at this
      cases this
theorem PL.but {h c x : Nat} {H H' : Hp} {ks : List (Addr × List Nat)} (e : PL H x ks) (b : But h H H') (hh : HandAt H h c) : PL H' x ks := ⟨b _ _ (hh.neP e.top) e.top, fun p hp => b.tup hh (e.each p hp)⟩
section
variable {P : Program} {w : World} {K : PySem.W.Frag} {mg : Str → Option Value} {base : Heap}
def spDrawn (Gd : Nat → Prop) : Sp := fun vs H Q _ => ∃ (h c : Addr) (n : Nat), vs = [.ref h, .int (n : Int)] ∧ HandAt H h c ∧ 1 ≤ n ∧ n ≤ 6 ∧ Gd n ∧ ∀ H' t ls, But h H H' → HandAt H' h c → Rws H' t ls → Lots n (rows ls) → Q (.ref t) H'
abbrev nThrees : List Str := ["_law_hand_here", "_law_people_here", "_law_share", "_law_lot"]
theorem ok_threes (B : Bi mg) (h : Has K mg "_law_threes" (topS 51) ["_law_hand_here", "_law_people_here"]) (c1 : Cal P w K mg base 1 "_law_draw" spDraw []) (c2 : Cal P w K mg base 1 "_law_parts_of" spParts []) : Cal P w K mg base 2 "_law_threes" (spDrawn (· = 6)) [] := by
  refine cal_of (N := nThrees) h (by decide +kernel) (fun vs H Q E h => ?_) (fun nd f cdv A outer s H vs Q E hr h => ?_)
  · obtain ⟨a, c, n, rfl, _⟩ := h
    rfl
  · obtain ⟨h, c, n, rfl, hh, h1, h6, rfl, q⟩ := h
    refine ⟨_, pss_cons (ps_set (i := 2) nd rfl (Or.inr rfl) (pe_op op_add pe_int (pe_c c1 hr (by decide) (by rfl) (pa_cons (pv 0) (pa_cons pe_int pa_nil)))))
      (pss_one (ps_ret (pe_callTy call_tuple_of (by rfl) B.tuple (by decide +kernel) (pa_cons
        (pe_lc (own := [("_law_lot", 3)]) (g := gName 3) rfl nd (pi_list (pe_c c2 hr (by decide) (by rfl) (pa_cons (pe_listRg rfl (by rfl) B.list (prg_1 (by rfl) B.range (pv 1))) (pa_cons pe_int pa_nil))))
          (blkOk_by (own := [("_law_lot", 3)]) (N := nThrees) (sc := fnScope (topS 51)) (by decide +kernel)) (fun _ _ _ _ _ => pg_name (i := 3) nd rfl (Or.inl rfl))
          (fun _ _ _ _ _ => pts_one (pt_cmpR op_lt (pe_c c1 hr (by decide) (by rfl) (pa_cons (pv 0) (pa_cons pe_int pa_nil))) (pe_op op_add (pv 2) pe_int) (nomark _))) (fun _ _ _ _ _ => pv 3)) pa_nil)))), ?_⟩
    refine ⟨_, rfl, h, c, 5, rfl, hh, by decide, by decide, fun H1 k b1 hh1 hk => ⟨_, _, rfl, rfl, ?_⟩⟩
    refine ⟨_, rfl, (6 : Int), rfl, .of_le (by omega) (by omega) (by omega) (by omega), fun L hL => ?_⟩
    have eL : rgV 0 6 = nums (cr 63) := by
      rw [cr63]
      exact rg_nums 6
    refine ⟨L, 63, 3, rfl, by rw [upd_same, eL], by decide, by decide, fun H2 x ks s2 pl er => ⟨x, rfl, ⟨_, SqL.of pl.top⟩, fun D hD => ?_⟩⟩
    have s1 := (same_new (o := .lst (rgV 0 6)) hL).trans s2
    have hh2 := hh1.same s1
    have nD := hh2.new hD
    have lk : ks.length ≤ 20 := by
      have := congrArg List.length er
      rw [List.length_map] at this
      have := parts20 (m := 63) (k := 3) (by decide) (by decide)
      omega
    refine lc_it (walk_list (xs := ks.map fun p => V.ref p.1)) (fun i H' => ∃ fs, But h H2 H' ∧ HandAt H' h c ∧ PL H' D fs ∧ fs.Sublist (ks.take i))
      ⟨[], Same.but (same_new hD), hh2.put nD, ⟨upd_same, fun p hp => absurd hp List.not_mem_nil⟩, List.nil_sublist _⟩ (fun i H' _ a => by obtain ⟨fs, a, _⟩ := a; exact SqL.of ((pl.but a hh2).top)) (fun i y H3 H4 hi a hy => ?_) (fun H3 a => ?_)
    · obtain ⟨fs, b4, hh4, pf, sb⟩ := a
      obtain ⟨rfl, hy⟩ := hy
      obtain ⟨p, hp, rfl⟩ := ks_at hy
      have lf : fs.length ≤ 20 := by
        have := sb.length_le
        rw [List.length_take] at this
        omega
      refine ⟨rfl, _, rfl, h, c, 6, rfl, hh4, by decide, by decide, fun H5 e b5 hh5 he => ⟨_, rfl, _, _, rfl, rfl, _, _, rfl, rfl, _, rfl, ?_⟩⟩
      have pf5 := pf.but b5 hh4
      have b35 := b4.trans b5
      have st : (ks.take (i + 1)) = ks.take i ++ [p] := by
        rw [List.take_add_one, hp]
        rfl
      refine ite2 (fun _ => ⟨_, rfl, _, pf5.top, by rw [List.length_map]; exact szl (by omega), fs ++ [p], put_but b35 hD, hh5.put nD, pf5.app (gs := [p]) (fun q hq => ?_), ?_⟩) (fun _ => ⟨fs, b35, hh5, pf5, ?_⟩)
      · rw [List.mem_singleton.mp hq]
        exact b35.tup hh2 (pl.each p (List.mem_of_getElem? hp))
      · rw [st]
        exact sb.append (List.Sublist.refl _)
      · rw [st]
        exact sb.trans (List.sublist_append_left _ _)
    · obtain ⟨fs, b4, hh4, pf, sb⟩ := a
      rw [List.length_map, List.take_length] at sb
      refine ⟨D, _, rfl, .inl ⟨SqL.of pf.top, fun t ht => ?_⟩⟩
      refine q _ t fs (((b1.trans (Same.but s1)).trans b4).trans (Same.but (same_new ht))) (hh4.same (same_new ht)) ⟨upd_same, fun p hp => same_new ht _ _ (pf.each p hp)⟩ (threes_lots ?_)
      rw [← er]
      exact sb.map _
abbrev nEven : List Str := ["_law_hand_here", "_law_people_here", "_law_home", "_law_heaps", "_law_part", "_law_row", "_law_person"]
theorem ok_even (B : Bi mg) (h : Has K mg "_law_even_lots" (topS 50) ["_law_hand_here", "_law_people_here"]) (c1 : Cal P w K mg base 1 "_law_draw" spDraw []) (c2 : Cal P w K mg base 1 "_law_parts_of" spParts []) (c3 : Cal P w K mg base 1 "_law_least_lots" spLeast []) : Cal P w K mg base 2 "_law_even_lots" (spDrawn fun _ => True) [] := by
  refine cal_of (N := nEven) h (by decide +kernel) (fun vs H Q E h => ?_) (fun nd f cdv A outer s H vs Q E hr h => ?_)
  · obtain ⟨a, c, n, rfl, _⟩ := h
    rfl
  · obtain ⟨h, c, n, rfl, hh, h1, h6, _, q⟩ := h
    refine ⟨_, pss_cons (ps_set (i := 2) nd rfl (Or.inr rfl) (pe_lc (own := [("_law_person", 6)]) (g := gName 6) (tt := tYes) rfl nd (pi_range1 (by rfl) B.range (pa_cons (pv 1) pa_nil))
          (blkOk_by (own := [("_law_person", 6)]) (N := nEven) (sc := fnScope (topS 50)) (by decide +kernel)) (fun _ _ _ _ _ => pg_name (i := 6) nd rfl (Or.inl rfl)) (fun _ _ _ _ _ => pts_nil)
          (fun _ _ _ _ _ => pe_c c1 hr (by decide) (by rfl) (pa_cons (pv 0) (pa_cons pe_int pa_nil)))))
      (pss_cons (ps_set (i := 3) nd rfl (Or.inl rfl) (pe_lst pa_nil))
      (pss_cons (ps_for PassesOwn.never rfl (pi_range1 (by rfl) B.range (pa_cons pe_int pa_nil)) (pg_name (i := 4) nd rfl (Or.inr rfl))
        (pss_cons (ps_setLc (i := 5) (own := [("_law_person", 6)]) (g := gName 6) rfl nd rfl rfl (sw_true rfl rfl rfl (by decide +kernel)) (pi_range1 (by rfl) B.range (pa_cons (pv 1) pa_nil))
          (blkOk_by (own := [("_law_person", 6)]) (N := nEven) (sc := fnScope (topS 50)) (by decide +kernel)) (fun _ _ _ _ _ => pg_name (i := 6) nd rfl (Or.inl rfl))
          (fun _ _ _ _ _ => pts_one (pt_cmpR op_eq (pe_ix (ixL K) (pv 2) (pv 6) (fun _ _ => rfl)) (pv 4) (nomark _))) (fun _ _ _ _ _ => pv 6))
        (pss_one (ps_set (i := 3) nd rfl (Or.inl rfl) (pe_op op_cat (pv 3) (pe_c c2 hr (by decide) (by rfl) (pa_cons (pv 5) (pa_cons (pe_op op_add pe_int (pe_c c1 hr (by decide) (by rfl) (pa_cons (pv 0) (pa_cons pe_int pa_nil)))) pa_nil))))))))
      (pss_one (ps_ret (pe_c c3 hr (by decide) (by rfl) (pa_cons (pv 3) pa_nil)))))), ?_⟩
    refine ⟨_, rfl, _, rfl, by omega, by omega, fun D hD => ?_⟩
    rw [Int.toNat_natCast]
    have nD := hh.new hD
    refine lc_it (walk_r0 (n := n)) (fun j H' => ∃ hs : List Nat, But h H H' ∧ HandAt H' h c ∧ H' D = some (.lst (nums hs)) ∧ hs.length = j)
      ⟨[], Same.but (same_new hD), hh.put nD, upd_same, rfl⟩ (fun _ _ _ _ => trivial) (fun j y H6 H7 hj a hy => ?_) (fun H1 a => ?_)
    · obtain ⟨rfl, rfl⟩ := hy
      obtain ⟨hs, bd, hh6, d6, ld⟩ := a
      refine ⟨rfl, _, rfl, h, c, 3, rfl, hh6, by decide, by decide, fun H8 e b8 hh8 he => ?_⟩
      have d8 := b8 _ _ nD.1 d6
      exact ⟨_, d8, by rw [nums_len]; exact szl (by omega), hs ++ [e], put_but (bd.trans b8) hD, hh8.put nD, by rw [upd_same, nums_app]; rfl, by rw [List.length_append, ld]; rfl⟩
    · obtain ⟨hs, bd, hh1, d1, ld⟩ := a
      refine ⟨Nat.zero_le _, fun X0 hX0 => ?_⟩
      have s1 := same_new (o := .lst []) hX0
      refine ⟨3, rfl, by decide, by decide, ?_⟩
      refine for_it (walk_r0 (n := 3)) (fun i σ H' => ∃ v4 v5 X ks, σ = [some (.ref h), some (.int (n : Int)), some (.ref D), some (.ref X), v4, v5, none] ∧ But h H H' ∧ HandAt H' h c ∧ H' D = some (.lst (nums hs)) ∧ Hps H' X n ks ∧ ks.length ≤ 20 * i)
        ⟨_, _, X0, [], rfl, bd.trans (Same.but s1), hh1.same s1, s1 _ _ d1, ⟨upd_same, fun p hp => absurd hp List.not_mem_nil, fun p hp => absurd hp List.not_mem_nil⟩, Nat.zero_le _⟩
        (fun i σ H' _ hp => trivial) (fun i y σ H2 H3 hi hp hy => ?_) (fun σ H2 hp => ?_)
      · obtain ⟨rfl, rfl⟩ := hy
        obtain ⟨v4, v5, X, ks, rfl, bb, hh3, d3, hp, lk⟩ := hp
        refine ⟨_, rfl, _, rfl, by omega, by omega, fun R hR => ?_⟩
        rw [Int.toNat_natCast]
        refine lc_it (walk_r0 (n := n)) (fun j H' => Acc H3 R (nums ((List.range j).filter fun p => decide (hs.getD p 0 = i))) H') (acc_nil hR) (fun _ _ _ _ => trivial) (fun j y H4 H5 hj a hy => ?_) (fun H4 a => ?_)
        · obtain ⟨rfl, rfl⟩ := hy
          refine ⟨rfl, _, rfl, _, rfl, D, nums hs, (j : Int), .int (hs.getD j 0 : Nat), rfl, rfl, SqL.of (a.sm _ _ d3), at_of (j := j) (by omega) (nums_at (getD_at (by omega))), _, rfl, rfl, _, rfl, ?_⟩
          rw [dec_int, filter_more]
          cases decide (hs.getD j 0 = i) with
          | false =>
            simp only [Bool.false_eq_true, if_false, List.append_nil]
            exact a
          | true =>
            refine iteT ⟨_, rfl, a.put hR ?_ ?_⟩
            · rw [nums_len]
              exact Nat.le_trans (List.length_filter_le _ _) (by rw [List.length_range]; omega)
            · rw [nums_app]
              rfl
        · have hrs : Cr n ((List.range n).filter fun p => decide (hs.getD p 0 = i)) := ⟨fun x hx => List.mem_range.mp (List.mem_filter.mp hx).1, List.Pairwise.filter _ List.pairwise_lt_range⟩
          generalize ((List.range n).filter fun p => decide (hs.getD p 0 = i)) = rs at a hrs
          have ecr := cr_bn hrs (show n ≤ 12 by omega)
          have m64 : bn rs < 64 := Nat.lt_of_lt_of_le (bn_lt hrs) (Nat.pow_le_pow_right (by decide) h6 : 2 ^ n ≤ 2 ^ 6)
          have hh4 := hh3.same a.sm
          have nR : R ≠ h := (hh3.new hR).1
          have nX : X ≠ h := hh3.neP hp.top
          refine ⟨_, rfl, _, rfl, _, rfl, h, c, 2, rfl, hh4, by decide, by decide, fun H5 e b5 hh5 he => ⟨_, _, rfl, rfl, R, bn rs, 2 + e, rfl, ?_, m64, by omega, fun H6 y gs s6 pl er => ?_⟩⟩
          · rw [ecr]
            exact b5 _ _ nR a.at_
          · have hp6 := ((hp.same a.sm).but b5 hh4 nX).same s6
            have lg : gs.length ≤ 20 := by
              have := congrArg List.length er
              rw [List.length_map] at this
              have := parts20 (m := bn rs) (k := 2 + e) m64 (by omega)
              omega
            refine ⟨X, y, _, _, rfl, rfl, hp6.top, pl.top, ?_, fun Z hZ => ?_⟩
            · rw [List.length_map, List.length_map]
              exact szl' (by omega)
            · have sZ := same_new (o := .lst ((ks.map fun (p : Addr × List Nat) => V.ref p.1) ++ gs.map fun (p : Addr × List Nat) => V.ref p.1)) hZ
              refine ⟨_, _, Z, ks ++ gs, rfl, (((bb.trans (Same.but a.sm)).trans b5).trans (Same.but s6)).trans (Same.but sZ), (hh5.same s6).same sZ, sZ _ _ (s6 _ _ (b5 _ _ nD.1 (a.sm _ _ d3))), ⟨?_, fun p hp2 => ?_, fun p hp2 => ?_⟩, by rw [List.length_append]; omega⟩
              · rw [upd_same, List.map_append]
              · rcases List.mem_append.mp hp2 with z | z
                · exact sZ _ _ (hp6.each p z)
                · exact sZ _ _ (pl.each p z)
              · rcases List.mem_append.mp hp2 with z | z
                · exact hp.cr p z
                · obtain ⟨q1, q2, _⟩ := parts_ok (row := cr (bn rs)) (k := 2 + e) (l := p.2) (by rw [← er]; exact List.mem_map.mpr ⟨p, z, rfl⟩)
                  rw [ecr] at q2
                  exact ⟨fun x hx => hrs.1 x (q2 x hx), q1⟩
      · obtain ⟨v4, v5, X, ks, rfl, bb, hh3, d3, hp, lk⟩ := hp
        refine ⟨_, rfl, X, n, ks, rfl, hp, by omega, by omega, fun H4 t ls s4 ht hl => q H4 t ls (bb.trans (Same.but s4)) (hh3.same s4) ht hl⟩
abbrev nLots : List Str := ["_law_hand_here", "_law_people_here"]
theorem ok_llots (h : Has K mg "_law_lots" (topS 52) ["_law_hand_here", "_law_people_here"]) (c1 : Cal P w K mg base 1 "_law_draw" spDraw []) (c2 : Cal P w K mg base 2 "_law_threes" (spDrawn (· = 6)) []) (c3 : Cal P w K mg base 2 "_law_even_lots" (spDrawn fun _ => True) [])
    (c4 : Cal P w K mg base 2 "_law_some_lots" spSome []) : Cal P w K mg base 3 "_law_lots" (spDrawn fun _ => True) [] := by
  refine cal_of (N := nLots) h (by decide +kernel) (fun vs H Q E h => ?_) (fun nd f cdv A outer s H vs Q E hr h => ?_)
  · obtain ⟨a, c, n, rfl, _⟩ := h
    rfl
  · obtain ⟨h, c, n, rfl, hh, h1, h6, _, q⟩ := h
    obtain ⟨t2, P2, R2⟩ : ∃ t2, PSs (cxOf C8.CX0 P w K mg base nLots "_law_lots" (fnScope (topS 52)) f cdv A outer s H E).nox ((fnBody (topS 52)).drop 1) t2 ∧
        ∀ H', HandAt H' h c → But h H H' → t2 { nx := fun _ H' => Q .non H', rt := Q } [some (.ref h), some (.int (n : Int))] H' := by
      refine ⟨_, pss_cons (ps_if (pt_cmpR op_eq (pe_c c1 hr (by decide) (by rfl) (pa_cons (pv 0) (pa_cons pe_int pa_nil))) pe_int (nomark _)) (pss_one (ps_ret (pe_c c3 hr (by decide) (by rfl) (pa_cons (pv 0) (pa_cons (pv 1) pa_nil))))) pss_nil)
        (pss_one (ps_ret (pe_c c4 hr (by decide) (by rfl) (pa_cons (pv 0) (pa_cons (pv 1) (pa_cons pe_int pa_nil)))))), fun H1 hh1 b1 => ?_⟩
      refine ⟨_, rfl, h, c, 4, rfl, hh1, by decide, by decide, fun H2 k b2 hh2 hk => ⟨rfl, _, rfl, ?_⟩⟩
      refine ite2 (fun _ => ?_) (fun _ => ?_)
      · exact ⟨_, rfl, _, rfl, h, c, n, rfl, hh2, h1, h6, trivial, fun H3 t ls b3 hh3 ht hl => q H3 t ls ((b1.trans b2).trans b3) hh3 ht hl⟩
      · exact ⟨_, rfl, _, rfl, h, c, n, rfl, hh2, h1, h6, fun H3 t ls b3 hh3 ht hl => q H3 t ls ((b1.trans b2).trans b3) hh3 ht hl⟩
    refine ⟨_, pss_cons (ps_if (PW.pt (pw_and (pt_cmpR op_gt (pv 1) pe_int (nomark _)) (pw_and1 (pt_cmpR op_eq (pe_c c1 hr (by decide) (by rfl) (pa_cons (pv 0) (pa_cons pe_int pa_nil))) pe_int (nomark _)))))
      (pss_one (ps_ret (pe_c c2 hr (by decide) (by rfl) (pa_cons (pv 0) (pa_cons (pv 1) pa_nil))))) pss_nil) P2, ?_⟩
    refine ⟨_, rfl, _, _, rfl, rfl, _, rfl, ?_⟩
    refine ite2 (fun hn => ?_) (fun _ => R2 H hh (fun _ _ _ e => e))
    have hn := of_decide_eq_true hn
    refine ⟨_, rfl, h, c, 6, rfl, hh, by decide, by decide, fun H2 k b2 hh2 hk => ⟨rfl, _, rfl, ?_⟩⟩
    refine ite2 (fun _ => ?_) (fun _ => R2 H2 hh2 b2)
    exact ⟨_, rfl, _, rfl, h, c, n, rfl, hh2, h1, h6, by show n = 6; omega, fun H3 t ls b3 hh3 ht hl => q H3 t ls (b2.trans b3) hh3 ht hl⟩
end
end Lk
/-! Bent crowds and other things. -/
namespace Lk
open PySem PySem.Spec PyProof.Rows L2 C8
theorem HandAt.thg {H : Hp} {h c : Addr} (hh : HandAt H h c) : Thg H (.ref h) := by
  obtain ⟨xs, e⟩ := hh.lst
  exact .lst e
theorem Thg.but {h c : Addr} {H H' : Hp} {x : V} (t : Thg H x) (b : But h H H') (hh : HandAt H h c) (hh' : HandAt H' h c) : Thg H' x := by
  cases t with
  | non => exact .non
  | bl b => exact .bl b
  | int i => exact .int i
  | str x => exact .str x
  | @lst a xs e =>
    by_cases z : a = h
    · rw [z]
      exact hh'.thg
    · exact .lst (b _ _ z e)
  | tup e => exact .tup (b.tup hh e)
  | @dct a kvs e =>
    obtain ⟨ys, hy⟩ := hh.lst
    exact .dct (b _ _ (ne_of e hy (by intro z; cases z)) e)
/-- a thing, its items told where it is a tuple -/
def ThgT (H : Hp) (x : V) : Prop := (∃ t xs, x = .ref t ∧ H t = some (.tup xs) ∧ xs.length ≤ 1000 ∧ ∀ y ∈ xs, Thg H y) ∨ Nt H x
theorem ThgT.thg {H : Hp} {x : V} (h : ThgT H x) : Thg H x := by
  rcases h with ⟨t, xs, rfl, e, _, _⟩ | h
  · exact .tup e
  · cases h with
    | non => exact .non
    | bl b => exact .bl b
    | int i => exact .int i
    | str x => exact .str x
    | lst e => exact .lst e
    | dct e => exact .dct e
theorem ThgT.same {H H' : Hp} {x : V} (h : ThgT H x) (s : Same H H') : ThgT H' x := by
  rcases h with ⟨t, xs, rfl, e, hz, hx⟩ | h
  · exact .inl ⟨t, xs, rfl, s _ _ e, hz, fun y hy => (hx y hy).same s⟩
  · exact .inr (h.same s)
theorem Nt.but {h c : Addr} {H H' : Hp} {x : V} (t : Nt H x) (b : But h H H') (hh : HandAt H h c) (hh' : HandAt H' h c) : Nt H' x := by
  cases t with
  | non => exact .non
  | bl b => exact .bl b
  | int i => exact .int i
  | str x => exact .str x
  | @lst a xs e =>
    by_cases z : a = h
    · obtain ⟨ys, hy⟩ := hh'.lst
      rw [z]
      exact .lst hy
    · exact .lst (b _ _ z e)
  | @dct a kvs e =>
    obtain ⟨ys, hy⟩ := hh.lst
    exact .dct (b _ _ (ne_of e hy (by intro z; cases z)) e)
theorem ThgT.but {h c : Addr} {H H' : Hp} {x : V} (t : ThgT H x) (b : But h H H') (hh : HandAt H h c) (hh' : HandAt H' h c) : ThgT H' x := by
  rcases t with ⟨t, xs, rfl, e, hz, hx⟩ | t
  · exact .inl ⟨t, xs, rfl, b.tup hh e, hz, fun y hy => (hx y hy).but b hh hh'⟩
  · exact .inr (t.but b hh hh')
section
variable {P : Program} {w : World} {K : PySem.W.Frag} {mg : Str → Option Value} {base : Heap}
/-- a part of a tuple, by whatever bounds -/
theorem sl_any {a : Addr} {xs : List V} {lo hi : Option Int} {H : Hp} {Q : VK} (ha : H a = some (.tup xs)) (q : ∀ H' p ys, Same H H' → H' p = some (.tup ys) → ys.length ≤ xs.length → (∀ y ∈ ys, y ∈ xs) → Q (.ref p) H') : rSlA K (.ref a) lo hi H Q := by
  refine ⟨a, xs, rfl, SqT.of ha, fun _ => q H a xs (fun _ _ e => e) ha (Nat.le_refl _) (fun _ h => h), fun _ p hp => q _ p _ (same_new hp) upd_same (cutV_length _ _ _) fun y hy => ?_⟩
  unfold cutV at hy
  exact List.mem_of_mem_drop (List.mem_of_mem_take hy)
theorem cat_any {a b : Addr} {xs ys : List V} {H : Hp} {Q : VK} (ha : H a = some (.tup xs)) (hb : H b = some (.tup ys)) (hz : xs.length + ys.length ≤ 1000) (q : ∀ H' p, Same H H' → H' p = some (.tup (xs ++ ys)) → Q (.ref p) H') : rCatA K (.ref a) (.ref b) H Q := by
  refine ⟨a, b, xs, ys, rfl, rfl, SqT.of ha, SqT.of hb, szl' (by omega), fun e => ?_, fun _ e => ?_, fun _ _ p hp => q _ p (same_new hp) upd_same⟩
  · exact q H b (fun _ _ e => e) (by rw [e]; exact hb)
  · exact q H a (fun _ _ e => e) (by rw [e, List.append_nil]; exact ha)
def spOdd : Sp := fun vs H Q _ => ∃ (h c n : Nat), vs = [.ref h, .int (n : Int)] ∧ HandAt H h c ∧ ∀ H' x, But h H H' → HandAt H' h c → Thg H' x → Q x H'
abbrev nOdd : List Str := ["_law_hand_here", "_law_people_here", "_law_odd_here"]
theorem ok_odd (h : Has K mg "_law_odd" (topS 62) ["_law_hand_here", "_law_people_here"]) (c1 : Cal P w K mg base 1 "_law_draw" spDraw []) : Cal P w K mg base 2 "_law_odd" spOdd [] := by
  refine cal_of (N := nOdd) h (by decide +kernel) (fun vs H Q E h => ?_) (fun nd f cdv A outer s H vs Q E hr h => ?_)
  · obtain ⟨a, c, n, rfl, _⟩ := h
    rfl
  · obtain ⟨h, c, n, rfl, hh, q⟩ := h
    refine ⟨_, pss_cons (ps_set (i := 2) nd rfl (Or.inl rfl) (pe_lst (pa_cons (pv 1) (pa_cons (pe_un un_neg pe_int) (pa_cons pe_non (pa_cons pe_bl (pa_cons pe_bl (pa_cons pe_str (pa_cons (pe_tup (pa_cons pe_int pa_nil))
        (pa_cons (pe_lst (pa_cons pe_int pa_nil)) (pa_cons (pe_op op_pow pe_int pe_int) (pa_cons pe_int (pa_cons pe_dnewK pa_nil)))))))))))))
      (pss_one (ps_ret (pe_ix ix_list (pv 2) (pe_c c1 hr (by decide) (by rfl) (pa_cons (pv 0) (pa_cons pe_int pa_nil))) (fun _ _ => rfl)))), ?_⟩
    refine ⟨_, rfl, 1, rfl, by show 1 ≤ sizeLine; decide, fun T hT => ⟨by show 1 ≤ sizeLine; decide, fun L hL => ⟨_, _, rfl, rfl, ⟨by decide, by decide, by decide⟩, fun D hD => ⟨by show 11 ≤ sizeLine; decide, fun M hM => ?_⟩⟩⟩⟩
    have s1 := same_new (o := .tup [V.int 0]) hT
    have s2 := same_new (o := .lst [V.int 0]) hL
    have s3 := same_new (o := .dK []) hD
    have sM := same_new (o := .lst [V.int (n : Int), .int (-1), .non, .bl true, .bl false, .str "0", .ref T, .ref L, .int (10 ^ (40 : Int).toNat), .int 0, .ref D]) hM
    have hM1 := (((hh.same s1).same s2).same s3).same sM
    refine ⟨_, rfl, _, rfl, h, c, 11, rfl, hM1, by decide, by decide, fun H6 k b6 hh6 hk => ?_⟩
    have nM := ((((hh.same s1).same s2).same s3).new hM).1
    have all : ∀ y ∈ [V.int (n : Int), .int (-1), .non, .bl true, .bl false, .str "0", .ref T, .ref L, .int (10 ^ (40 : Int).toNat), .int 0, .ref D], Thg _ y := fun y hy => by
      simp only [List.mem_cons, List.not_mem_nil, or_false] at hy
      rcases hy with rfl | rfl | rfl | rfl | rfl | rfl | rfl | rfl | rfl | rfl | rfl
      · exact .int _
      · exact .int _
      · exact .non
      · exact .bl _
      · exact .bl _
      · exact .str _
      · exact .tup (((s2.trans s3).trans sM) _ _ upd_same)
      · exact .lst ((s3.trans sM) _ _ upd_same)
      · exact .int _
      · exact .int _
      · exact .dct (sM _ _ upd_same)
    obtain ⟨x, hx⟩ : ∃ x, [V.int (n : Int), .int (-1), .non, .bl true, .bl false, .str "0", .ref T, .ref L, .int (10 ^ (40 : Int).toNat), .int 0, .ref D][k]? = some x := ⟨_, List.getElem?_eq_getElem hk⟩
    refine ⟨M, _, (k : Int), x, rfl, rfl, SqL.of (b6 _ _ nM upd_same), atI_nat hx, q H6 x ((Same.but (((s1.trans s2).trans s3).trans sM)).trans b6) hh6 ?_⟩
    exact (all x (List.mem_of_getElem? hx)).but b6 hM1 hh6
def spDeep : Sp := fun vs H Q _ => ∃ (h c : Addr), vs = [.ref h] ∧ HandAt H h c ∧ ∀ H' x, But h H H' → HandAt H' h c → ThgT H' x → Q x H'
abbrev nDeep : List Str := ["_law_hand_here", "_law_found", "_law_turn"]
theorem ok_deep (B : Bi mg) (h : Has K mg "_law_deep" (topS 59) ["_law_hand_here"]) (c1 : Cal P w K mg base 1 "_law_draw" spDraw []) : Cal P w K mg base 2 "_law_deep" spDeep [] := by
  refine cal_of (N := nDeep) h (by decide +kernel) (fun vs H Q E h => ?_) (fun nd f cdv A outer s H vs Q E hr h => ?_)
  · obtain ⟨a, c, rfl, _⟩ := h
    rfl
  · obtain ⟨h, c, rfl, hh, q⟩ := h
    refine ⟨_, pss_cons (ps_set (i := 1) nd rfl (Or.inl rfl) (pe_ix ix_list (pe_lst (pa_cons pe_non (pa_cons pe_str (pa_cons (pe_un un_neg pe_int) (pa_cons pe_dnewK pa_nil))))) (pe_c c1 hr (by decide) (by rfl) (pa_cons (pv 0) (pa_cons pe_int pa_nil))) (fun _ _ => rfl)))
      (pss_cons (ps_for PassesOwn.never rfl (pi_range1 (by rfl) B.range (pa_cons (pe_op op_add pe_int (pe_c c1 hr (by decide) (by rfl) (pa_cons (pv 0) (pa_cons pe_int pa_nil)))) pa_nil)) (pg_name (i := 2) nd rfl (Or.inl rfl))
        (pss_one (ps_set (i := 1) nd rfl (Or.inl rfl) (pe_ix ix_list (pe_lst (pa_cons (pe_tup (pa_cons (pv 1) pa_nil)) (pa_cons (pe_lst (pa_cons (pv 1) pa_nil))
          (pa_cons (pe_slice sl_tupA (pe_tup (pa_cons (pv 1) (pa_cons (pv 1) pa_nil))) po_none (po_some pe_int)) (pa_cons (pe_disp (pps_cons pe_int (pv 1) pps_nil) rfl rfl (by decide) (by decide)) pa_nil)))))
          (pe_c c1 hr (by decide) (by rfl) (pa_cons (pv 0) (pa_cons pe_int pa_nil))) (fun _ _ => rfl)))))
      (pss_one (ps_ret (pv 1)))), ?_⟩
    refine ⟨1, rfl, fun D hD => ⟨by show 4 ≤ sizeLine; decide, fun L hL => ?_⟩⟩
    have s1 := same_new (o := .dK []) hD
    have s2 := same_new (o := .lst [V.non, .str "a", .int (-1), .ref D]) hL
    have hh2 := (hh.same s1).same s2
    have nL := ((hh.same s1).new hL).1
    refine ⟨_, rfl, h, c, 4, rfl, hh2, by decide, by decide, fun H3 k b3 hh3 hk => ?_⟩
    have all : ∀ y ∈ [V.non, .str "a", .int (-1), .ref D], ThgT _ y := fun y hy => by
      simp only [List.mem_cons, List.not_mem_nil, or_false] at hy
      rcases hy with rfl | rfl | rfl | rfl
      · exact .inr .non
      · exact .inr (.str _)
      · exact .inr (.int _)
      · exact .inr (.dct (s2 _ _ upd_same))
    obtain ⟨x, hx⟩ : ∃ x, [V.non, .str "a", .int (-1), .ref D][k]? = some x := ⟨_, List.getElem?_eq_getElem hk⟩
    refine ⟨L, _, (k : Int), x, rfl, rfl, SqL.of (b3 _ _ nL upd_same), atI_nat hx, ?_⟩
    have tx := (all x (List.mem_of_getElem? hx)).but b3 hh2 hh3
    have bb := (Same.but (a := h) (s1.trans s2)).trans b3
    refine ⟨_, rfl, h, c, 30, rfl, hh3, by decide, by decide, fun H4 m b4 hh4 hm => ⟨_, _, rfl, rfl, _, rfl, by omega, by omega, ?_⟩⟩
    generalize ((1 : Int) + (m : Int)).toNat = N
    refine for_it (walk_r0 (n := N)) (fun i σ H' => ∃ v1 v2, σ = [some (.ref h), some v1, v2] ∧ But h H H' ∧ HandAt H' h c ∧ ThgT H' v1)
      ⟨_, _, rfl, bb.trans b4, hh4, tx.but b4 hh3 hh4⟩ (fun i σ H' _ hp => trivial) (fun i y σ H5 H6 hi hp hy => ?_) (fun σ H5 hp => ?_)
    · obtain ⟨rfl, rfl⟩ := hy
      obtain ⟨v1, v2, rfl, b6, hh6, t6⟩ := hp
      refine ⟨_, rfl, by show 1 ≤ sizeLine; decide, fun A hA => ⟨_, rfl, by show 1 ≤ sizeLine; decide, fun B' hB => ⟨_, rfl, _, rfl, by show 2 ≤ sizeLine; decide, fun C hC => ⟨1, rfl, ?_⟩⟩⟩⟩
      have s7 := same_new (o := .tup [v1]) hA
      have s8 := same_new (o := .lst [v1]) hB
      have s9 := same_new (o := .tup [v1, v1]) hC
      refine sl_any upd_same (fun H10 p ys s10 hp hl hy => ?_)
      refine fun E' hE => ⟨_, rfl, upd_same, [(.inl 0, v1)], rfl, by show 1 ≤ 15; decide, ?_⟩
      rw [upd_upd]
      have s11 := same_new (o := .dK (mergeK [] [((.inl 0 : Key), v1)])) hE
      refine ⟨by show 4 ≤ sizeLine; decide, fun L2 hL2 => ?_⟩
      have s12 := same_new (o := .lst [.ref A, .ref B', .ref p, .ref E']) hL2
      have hhE := ((((hh6.same s7).same s8).same s9).same s10).same s11
      have nL2 := (hhE.new hL2).1
      have hhL := hhE.same s12
      have s7' := (((s8.trans s9).trans s10).trans s11).trans s12
      have tg := t6.thg.same (s7.trans s7')
      have all : ∀ y ∈ [V.ref A, .ref B', .ref p, .ref E'], ThgT _ y := fun y hy2 => by
        simp only [List.mem_cons, List.not_mem_nil, or_false] at hy2
        rcases hy2 with rfl | rfl | rfl | rfl
        · exact .inl ⟨A, [v1], rfl, s7' _ _ upd_same, by show 1 ≤ 1000; decide, fun y hy => by rw [List.mem_singleton.mp hy]; exact tg⟩
        · exact .inr (.lst ((((s9.trans s10).trans s11).trans s12) _ _ upd_same))
        · refine .inl ⟨p, ys, rfl, (s11.trans s12) _ _ hp, Nat.le_trans hl (by show 2 ≤ 1000; decide), fun z hz => ?_⟩
          have := hy z hz
          simp only [List.mem_cons, List.not_mem_nil, or_false] at this
          rcases this with rfl | rfl
          · exact tg
          · exact tg
        · exact .inr (.dct (s12 _ _ upd_same))
      refine ⟨_, rfl, h, c, 4, rfl, hhL, by decide, by decide, fun H13 k2 b13 hh13 hk2 => ?_⟩
      obtain ⟨x2, hx2⟩ : ∃ x, [V.ref A, .ref B', .ref p, .ref E'][k2]? = some x := ⟨_, List.getElem?_eq_getElem hk2⟩
      refine ⟨L2, _, (k2 : Int), x2, rfl, rfl, SqL.of (b13 _ _ nL2 upd_same), atI_nat hx2, _, _, rfl, (b6.trans (Same.but (s7.trans s7'))).trans b13, hh13, ?_⟩
      exact (all x2 (List.mem_of_getElem? hx2)).but b13 hhL hh13
    · obtain ⟨v1, v2, rfl, b6, hh6, t6⟩ := hp
      exact ⟨_, rfl, q _ v1 b6 hh6 t6⟩
def spBent : Sp := fun vs H Q _ => ∃ (h c n ct : Nat) (cs : List Nat), vs = [.ref h, .int (n : Int), .ref ct] ∧ HandAt H h c ∧ H ct = some (.tup (nums cs)) ∧ cs.length ≤ 12 ∧ ∀ H' x, But h H H' → HandAt H' h c → ThgT H' x → Q x H'
abbrev nBent : List Str := ["_law_hand_here", "_law_people_here", "_law_crowd_here", "_law_kind", "_law_at"]
theorem thg_nums {H : Hp} {cs : List Nat} {y : V} (h : y ∈ nums cs) : Thg H y := by
  obtain ⟨k, _, rfl⟩ := List.mem_map.mp h
  exact .int _
theorem ok_bent (B : Bi mg) (h : Has K mg "_law_crowd_bent" (topS 63) ["_law_hand_here", "_law_people_here", "_law_crowd_here"]) (c1 : Cal P w K mg base 1 "_law_draw" spDraw []) (c2 : Cal P w K mg base 2 "_law_odd" spOdd []) (c3 : Cal P w K mg base 2 "_law_deep" spDeep []) : Cal P w K mg base 3 "_law_crowd_bent" spBent [] := by
  refine cal_of (N := nBent) h (by decide +kernel) (fun vs H Q E h => ?_) (fun nd f cdv A outer s H vs Q E hr h => ?_)
  · obtain ⟨a, c, n, ct, cs, rfl, _⟩ := h
    rfl
  · obtain ⟨h, c, n, ct, cs, rfl, hh, hc, hl, q⟩ := h
    refine ⟨_, pss_cons (ps_set (i := 3) nd rfl (Or.inl rfl) (pe_c c1 hr (by decide) (by rfl) (pa_cons (pv 0) (pa_cons pe_int pa_nil))))
      (pss_cons (ps_set (i := 4) nd rfl (Or.inl rfl) (pe_c c1 hr (by decide) (by rfl) (pa_cons (pv 0) (pa_cons (pe_op op_add (pe_callB call_len_seq (by rfl) B.len PySem.boot_len (pa_cons (pv 2) pa_nil)) pe_int) pa_nil))))
      (pss_cons (ps_if (pt_cmpR op_lt (pv 3) pe_int (nomark _)) (pss_one (ps_ret (pe_op op_catA (pe_op op_catA (pe_slice sl_tupA (pv 2) po_none (po_some (pv 4))) (pe_tup (pa_cons (pe_c c2 hr (by decide) (by rfl) (pa_cons (pv 0) (pa_cons (pv 1) pa_nil))) pa_nil)))
        (pe_slice sl_tupA (pv 2) (po_some (pv 4)) po_none)))) pss_nil)
      (pss_cons (ps_if (pt_cmpR op_eq (pv 3) pe_int (nomark _)) (pss_one (ps_ret (pe_op op_catA (pe_op op_catA (pe_slice sl_tupA (pv 2) po_none (po_some (pv 4))) (pe_tup (pa_cons (pe_c c2 hr (by decide) (by rfl) (pa_cons (pv 0) (pa_cons (pv 1) pa_nil))) pa_nil)))
        (pe_slice sl_tupA (pv 2) (po_some (pe_op op_add (pv 4) pe_int)) po_none)))) pss_nil)
      (pss_cons (ps_if (pt_cmpR op_eq (pv 3) pe_int (nomark _)) (pss_one (ps_ret (pe_backT (pv 2)))) pss_nil)
      (pss_cons (ps_if (pt_cmpR op_eq (pv 3) pe_int (nomark _)) (pss_one (ps_ret (pe_ix ix_list (pe_lst (pa_cons (pe_callTy call_list_of (by rfl) B.list (by decide +kernel) (pa_cons (pv 2) pa_nil)) (pa_cons pe_non (pa_cons pe_str (pa_cons pe_int (pa_cons pe_dnewK
        (pa_cons (pe_tup (pa_cons (pv 2) pa_nil)) (pa_cons pe_bl pa_nil)))))))) (pe_c c1 hr (by decide) (by rfl) (pa_cons (pv 0) (pa_cons pe_int pa_nil))) (fun _ _ => rfl)))) pss_nil)
      (pss_cons (ps_if (pt_cmpR op_eq (pv 3) pe_int (nomark _)) (pss_one (ps_ret (pe_op op_catA (pe_slice sl_tupA (pv 2) po_none (po_some (pv 4))) (pe_slice sl_tupA (pv 2) (po_some (pe_op op_add (pv 4) pe_int)) po_none)))) pss_nil)
      (pss_one (ps_ret (pe_c c3 hr (by decide) (by rfl) (pa_cons (pv 0) pa_nil)))))))))), ?_⟩
    refine ⟨_, rfl, h, c, 7, rfl, hh, by decide, by decide, fun H1 k b1 hh1 hk => ?_⟩
    have c1' := b1.tup hh hc
    refine ⟨_, rfl, _, rfl, ct, _, rfl, .inr (SqT.of c1'), _, _, rfl, rfl, h, c, cs.length + 1, by rw [nums_len]; rfl, hh1, by omega, by omega, fun H2 at_ b2 hh2 hat => ?_⟩
    have c2' := b2.tup hh1 c1'
    have bb := b1.trans b2
    refine ⟨_, rfl, _, _, rfl, rfl, _, rfl, ?_⟩
    refine ite2 (fun _ => ?_) (fun _ => ?_)
    · refine ⟨_, rfl, _, rfl, (at_ : Int), rfl, sl_any c2' (fun H3 p1 ys1 s3 e1 l1 m1 => ?_)⟩
      have hh3 := hh2.same s3
      refine ⟨_, rfl, _, rfl, h, c, n, rfl, hh3, fun H4 x b4 hh4 tx => ⟨by show 1 ≤ sizeLine; decide, fun T hT => ?_⟩⟩
      rw [nums_len] at l1
      have sT := same_new (o := .tup [x]) hT
      refine cat_any (sT _ _ (b4.tup hh3 e1)) upd_same (by show ys1.length + 1 ≤ 1000; omega) (fun H5 p3 s5 e3 => ?_)
      have c5 := s5 _ _ (sT _ _ (b4.tup hh3 (s3 _ _ c2')))
      refine ⟨_, rfl, _, rfl, (at_ : Int), rfl, ?_⟩
      unfold tNoPart
      refine sl_any c5 (fun H6 p4 ys2 s6 e4 l2 m2 => ?_)
      rw [nums_len] at l2
      refine cat_any (s6 _ _ e3) e4 (by rw [List.length_append, List.length_singleton]; omega) (fun H7 p5 s7 e5 => ?_)
      have sx := ((sT.trans s5).trans s6).trans s7
      refine q H7 _ (((bb.trans (Same.but s3)).trans b4).trans (Same.but sx)) (hh4.same sx) (.inl ⟨p5, _, rfl, e5, by rw [List.length_append, List.length_append, List.length_singleton]; omega, fun y hy => ?_⟩)
      rcases List.mem_append.mp hy with z | z
      · rcases List.mem_append.mp z with z | z
        · exact thg_nums (m1 y z)
        · rw [List.mem_singleton.mp z]
          exact tx.same sx
      · exact thg_nums (m2 y z)
    refine ⟨_, rfl, rfl, _, rfl, ?_⟩
    refine ite2 (fun _ => ?_) (fun _ => ?_)
    · refine ⟨_, rfl, _, rfl, (at_ : Int), rfl, sl_any c2' (fun H3 p1 ys1 s3 e1 l1 m1 => ?_)⟩
      have hh3 := hh2.same s3
      refine ⟨_, rfl, _, rfl, h, c, n, rfl, hh3, fun H4 x b4 hh4 tx => ⟨by show 1 ≤ sizeLine; decide, fun T hT => ?_⟩⟩
      rw [nums_len] at l1
      have sT := same_new (o := .tup [x]) hT
      refine cat_any (sT _ _ (b4.tup hh3 e1)) upd_same (by show ys1.length + 1 ≤ 1000; omega) (fun H5 p3 s5 e3 => ?_)
      have c5 := s5 _ _ (sT _ _ (b4.tup hh3 (s3 _ _ c2')))
      refine ⟨_, rfl, _, rfl, _, _, rfl, rfl, _, rfl, ?_⟩
      unfold tNoPart
      refine sl_any c5 (fun H6 p4 ys2 s6 e4 l2 m2 => ?_)
      rw [nums_len] at l2
      refine cat_any (s6 _ _ e3) e4 (by rw [List.length_append, List.length_singleton]; omega) (fun H7 p5 s7 e5 => ?_)
      have sx := ((sT.trans s5).trans s6).trans s7
      refine q H7 _ (((bb.trans (Same.but s3)).trans b4).trans (Same.but sx)) (hh4.same sx) (.inl ⟨p5, _, rfl, e5, by rw [List.length_append, List.length_append, List.length_singleton]; omega, fun y hy => ?_⟩)
      rcases List.mem_append.mp hy with z | z
      · rcases List.mem_append.mp z with z | z
        · exact thg_nums (m1 y z)
        · rw [List.mem_singleton.mp z]
          exact tx.same sx
      · exact thg_nums (m2 y z)
    refine ⟨_, rfl, rfl, _, rfl, ?_⟩
    refine ite2 (fun _ => ?_) (fun _ => ?_)
    · refine ⟨_, rfl, ct, _, rfl, SqT.of c2', fun p hp => ?_⟩
      refine q _ _ (bb.trans (Same.but (same_new hp))) (hh2.same (same_new hp)) (.inl ⟨p, _, rfl, upd_same, by rw [List.length_reverse, nums_len]; omega, fun y hy => thg_nums (List.mem_reverse.mp hy)⟩)
    refine ⟨_, rfl, rfl, _, rfl, ?_⟩
    refine ite2 (fun _ => ?_) (fun _ => ?_)
    · refine ⟨_, rfl, ct, _, rfl, .inr (SqT.of c2'), fun L hL => ?_⟩
      refine fun D hD => ⟨_, rfl, by show 1 ≤ sizeLine; decide, fun T hT => ⟨by show 7 ≤ sizeLine; decide, fun M hM => ?_⟩⟩
      have s1 := same_new (o := .lst (nums cs)) hL
      have s2 := same_new (o := .dK []) hD
      have s3 := same_new (o := .tup [V.ref ct]) hT
      have sM := same_new (o := .lst [.ref L, .non, .str "01", .int 0, .ref D, .ref T, .bl true]) hM
      have hhT := ((hh2.same s1).same s2).same s3
      have nM := (hhT.new hM).1
      have hhM := hhT.same sM
      have all : ∀ y ∈ [V.ref L, .non, .str "01", .int 0, .ref D, .ref T, .bl true], ThgT _ y := fun y hy => by
        simp only [List.mem_cons, List.not_mem_nil, or_false] at hy
        rcases hy with rfl | rfl | rfl | rfl | rfl | rfl | rfl
        · exact .inr (.lst (((s2.trans s3).trans sM) _ _ upd_same))
        · exact .inr .non
        · exact .inr (.str _)
        · exact .inr (.int _)
        · exact .inr (.dct ((s3.trans sM) _ _ upd_same))
        · refine .inl ⟨T, [.ref ct], rfl, sM _ _ upd_same, by show 1 ≤ 1000; decide, fun z hz => ?_⟩
          rw [List.mem_singleton.mp hz]
          exact .tup ((((s1.trans s2).trans s3).trans sM) _ _ c2')
        · exact .inr (.bl _)
      refine ⟨_, rfl, h, c, 7, rfl, hhM, by decide, by decide, fun H6 k2 b6 hh6 hk2 => ?_⟩
      obtain ⟨x, hx⟩ : ∃ x, [V.ref L, .non, .str "01", .int 0, .ref D, .ref T, .bl true][k2]? = some x := ⟨_, List.getElem?_eq_getElem hk2⟩
      refine ⟨M, _, (k2 : Int), x, rfl, rfl, SqL.of (b6 _ _ nM upd_same), atI_nat hx, q H6 x ((bb.trans (Same.but (((s1.trans s2).trans s3).trans sM))).trans b6) hh6 ?_⟩
      exact (all x (List.mem_of_getElem? hx)).but b6 hhM hh6
    refine ⟨_, rfl, rfl, _, rfl, ?_⟩
    refine ite2 (fun _ => ?_) (fun _ => ?_)
    · refine ⟨_, rfl, _, rfl, (at_ : Int), rfl, sl_any c2' (fun H3 p1 ys1 s3 e1 l1 m1 => ?_)⟩
      rw [nums_len] at l1
      have c3' := s3 _ _ c2'
      refine ⟨_, rfl, _, rfl, _, _, rfl, rfl, _, rfl, ?_⟩
      unfold tNoPart
      refine sl_any c3' (fun H6 p4 ys2 s6 e4 l2 m2 => ?_)
      rw [nums_len] at l2
      refine cat_any (s6 _ _ e1) e4 (by omega) (fun H7 p5 s7 e5 => ?_)
      have sx := (s3.trans s6).trans s7
      refine q H7 _ (bb.trans (Same.but sx)) (hh2.same sx) (.inl ⟨p5, _, rfl, e5, by rw [List.length_append]; omega, fun y hy => ?_⟩)
      rcases List.mem_append.mp hy with z | z
      · exact thg_nums (m1 y z)
      · exact thg_nums (m2 y z)
    · exact ⟨_, rfl, h, c, rfl, hh2, fun H3 x b3 hh3 tx => q H3 x (bb.trans b3) hh3 tx⟩
end
end Lk
/-! The law, from its end on. -/
namespace Lk
open PySem PySem.Spec PyProof.Rows L2 C8
theorem HandAt.neN {H : Hp} {h c x : Addr} {ms : List Nat} (hh : HandAt H h c) (e : H x = some (.lst (nums ms))) : x ≠ h := by
  obtain ⟨cells, i, a, b, d, D⟩ := hh
  intro z
  rw [z, D.at_] at e
  have e2 := HO.lst.inj (Option.some.inj e)
  match ms, e2 with
  | [], e2 => cases e2
  | _ :: _, e2 => cases (List.cons.inj e2).1
theorem Off.but {CB CO : Addr} {H H' : Hp} {h c o : Addr} {n : Nat} {od : List Nat} {zs : List (Nat × Nat)} (x : Off CB CO H o n od zs) (b : But h H H') (hh : HandAt H h c) : Off CB CO H' o n od zs := by
  obtain ⟨bk, t, ml, ot, l, d, dxo, dxb, kvs, x⟩ := x
  obtain ⟨ys, hy⟩ := hh.lst
  have ne : ∀ {a : Addr} {ob : HO}, H a = some ob → ob ≠ .lst ys → a ≠ h := fun e z => ne_of e hy z
  refine ⟨bk, t, ml, ot, l, d, dxo, dxb, kvs, b _ _ (ne x.at_ (by intro z; cases z)) x.at_, b _ _ (ne x.bk (by intro z; cases z)) x.bk, b.tup hh x.or, b _ _ (ne x.dk (by intro z; cases z)) x.dk, fun k hk => ?_⟩
  obtain ⟨a, h1, es, h2, h3, h4⟩ := x.bars k hk
  have na : a ≠ h := hh.neP (ks := es.map fun e => (e.1, [])) (by rw [List.map_map]; exact h2)
  exact ⟨a, h1, es, b _ _ na h2, fun e he => b.tup hh (h3 e he), h4⟩
/-- what stands when the crowd has been drawn -/
structure Sit (CB CO : Addr) (H : Hp) (h c n o m ot ct b : Nat) (od : List Nat) (zs : List (Nat × Nat)) : Prop where
  hh : HandAt H h c
  off : Off CB CO H o n od zs
  la : Lasts od zs
  ms : H m = some (.lst (nums (zs.map (·.1))))
  od_ : H ot = some (.tup (nums od))
  pm : od.Perm (List.range n)
  n1 : 1 ≤ n
  n6 : n ≤ 6
  z57 : zs.length ≤ 57
  bn_ : b < 2 ^ n
  ct_ : H ct = some (.tup (nums (cr b)))
theorem Sit.same {CB CO : Addr} {H H' : Hp} {h c n o m ot ct b : Nat} {od : List Nat} {zs : List (Nat × Nat)} (S : Sit CB CO H h c n o m ot ct b od zs) (s : Same H H') : Sit CB CO H' h c n o m ot ct b od zs :=
  ⟨S.hh.same s, S.off.same s, S.la, s _ _ S.ms, s _ _ S.od_, S.pm, S.n1, S.n6, S.z57, S.bn_, s _ _ S.ct_⟩
theorem Sit.but {CB CO : Addr} {H H' : Hp} {h c n o m ot ct b : Nat} {od : List Nat} {zs : List (Nat × Nat)} (S : Sit CB CO H h c n o m ot ct b od zs) (bt : But h H H') (hh : HandAt H' h c) : Sit CB CO H' h c n o m ot ct b od zs :=
  ⟨hh, S.off.but bt S.hh, S.la, bt _ _ (S.hh.neN S.ms) S.ms, bt.tup S.hh S.od_, S.pm, S.n1, S.n6, S.z57, S.bn_, bt.tup S.hh S.ct_⟩
section
variable {CB CO : Addr} {H : Hp} {h c n o m ot ct b : Nat} {od : List Nat} {zs : List (Nat × Nat)}
theorem Sit.p64 (S : Sit CB CO H h c n o m ot ct b od zs) {x : Nat} (hx : x < 2 ^ n) : x < 64 := Nat.lt_of_lt_of_le hx (Nat.pow_le_pow_right (by decide) S.n6 : 2 ^ n ≤ 2 ^ 6)
theorem Sit.bc (S : Sit CB CO H h c n o m ot ct b od zs) : bn (cr b) = b := bn_cr (by have := S.p64 S.bn_; omega)
theorem Sit.cr_ (S : Sit CB CO H h c n o m ot ct b od zs) : Cr n (cr b) := cr_ok S.bn_
theorem Sit.nd (S : Sit CB CO H h c n o m ot ct b od zs) : od.Nodup := S.pm.nodup_iff.mpr List.nodup_range
theorem Sit.mem (S : Sit CB CO H h c n o m ot ct b od zs) {k : Nat} : k ∈ od ↔ k < n := by
  rw [S.pm.mem_iff, List.mem_range]
theorem Sit.hps (S : Sit CB CO H h c n o m ot ct b od zs) (k : Nat) : k ∈ cr b ↔ b.testBit k = true := by
  rw [mem_cr]
  refine ⟨fun z => z.2, fun z => ⟨?_, z⟩⟩
  have := bit_lt S.bn_ z
  have := S.n6
  omega
theorem Sit.hod (S : Sit CB CO H h c n o m ot ct b od zs) (k : Nat) (z : b.testBit k = true) : k ∈ od := S.mem.mpr (bit_lt S.bn_ z)
theorem Sit.in_od (S : Sit CB CO H h c n o m ot ct b od zs) : ∀ p ∈ cr b, p ∈ od := fun p hp => S.hod p ((S.hps p).mp hp)
theorem Sit.ilt (S : Sit CB CO H h c n o m ot ct b od zs) : inb zs od b < 2 ^ n := inb_lt fun k hk => S.mem.mp hk
theorem Sit.isub (S : Sit CB CO H h c n o m ot ct b od zs) : b &&& inb zs od b = inb zs od b := and_eq_iff.mpr fun k hk => inb_sub S.la S.nd hk
theorem Sit.quiet_at (S : Sit CB CO H h c n o m ot ct b od zs) {s : Nat} (hs : b &&& s = s) : quiet zs (cr b) s = decide (s = inb zs od b) := S.la.quiet_iff S.nd S.hps S.hod (and_eq_iff.mp hs)
theorem Sit.quiet_same (S : Sit CB CO H h c n o m ot ct b od zs) (s : Nat) : (bn (cr b) &&& s = s ∧ quiet zs (cr b) s = true) ↔ s = inb zs od b := by
  rw [S.bc]
  refine ⟨fun ⟨h1, h2⟩ => ?_, fun e => ?_⟩
  · rw [S.quiet_at h1] at h2
    exact of_decide_eq_true h2
  · subst e
    exact ⟨S.isub, by rw [S.quiet_at S.isub]; exact decide_eq_true rfl⟩
theorem Sit.od1000 (S : Sit CB CO H h c n o m ot ct b od zs) : ∀ k ∈ od, k ≤ 1000 := fun k hk => by
  have := S.mem.mp hk
  have := S.n6
  omega
end
section
variable {P : Program} {w : World} {K : PySem.W.Frag} {mg : Str → Option Value} {base : Heap} {CB CO : Addr}
def spLaw (K : PySem.W.Frag) : Sp := fun vs H Q _ => ∃ (a : Addr) (ns : List Int), vs = [.ref a] ∧ SqL K H a (ns.map V.int) ∧ ns.length ≤ 63 ∧ ∀ H', Q (.bl true) H'
abbrev nLaw : List Str := ["_law_script", "_law_hand_here", "_law_people_here", "_law_lots_here", "_law_order_here", "_law_office", "_law_masks_here", "_law_bits_here", "_law_crowd_here", "_law_due", "_law_state", "_law_turn", "_law_row", "_law_time", "_law_person", "_law_thing", "_law_quiet", "_law_some", "_law_k"]
/-- the defs that the law calls -/
structure Calls (P : Program) (w : World) (K : PySem.W.Frag) (mg : Str → Option Value) (base : Heap) (CB CO : Addr) : Prop where
  hand : Cal P w K mg base 1 "_law_hand" (spHand K) []
  people : Cal P w K mg base 2 "_law_people" spLPeople []
  lots : Cal P w K mg base 3 "_law_lots" (spDrawn fun _ => True) []
  order : Cal P w K mg base 2 "_law_order" spLOrder []
  book : Mak P w K mg base 7 "Book" CB (spBook CB) []
  office : Mak P w K mg base 6 "Office" CO (spOffice CB CO) []
  masks : Cal P w K mg base 2 "_law_masks" spMasks []
  draw : Cal P w K mg base 1 "_law_draw" spDraw []
  crowd : Cal P w K mg base 1 "_law_crowd" spLCrowd []
  let_ : Cal P w K mg base 1 "_law_let" spLet []
  letIn : Cal P w K mg base 6 "let_in" (spLetIn CB CO) []
  flag : Cal P w K mg base 1 "_law_flag" spFlag []
  quiet : Cal P w K mg base 6 "is_quiet" (spQuiet CB CO) []
  isT : Cal P w K mg base 2 "_law_is" spIsT []
  through : Cal P w K mg base 7 "looked_through" (spThrough CB CO) []
  looked : Cal P w K mg base 7 "looked" (spLooked CB CO) []
  bent : Cal P w K mg base 3 "_law_crowd_bent" spBent []
  isCrowd : Cal P w K mg base 2 "_law_is_crowd" (spOfThing Cw) []
  bits : Cal P w K mg base 1 "_law_bits" spLBits []
abbrev Xl (P : Program) (w : World) (K : PySem.W.Frag) (mg : Str → Option Value) (base : Heap) (f : Addr) (cdv : Value) (A : Around) (outer : List Env) (s : Shared) (H : Hp) (E : XK) : Cx := (cxOf C8.CX0 P w K mg base nLaw "law" (fnScope (topS 64)) f cdv A outer s H E).nox
theorem law14 (C : Calls P w K mg base CB CO) (nd : nLaw.Nodup) {f : Addr} {cdv : Value} {A : Around} {outer : List Env} {s : Shared} {H0 : Hp} {Q : VK} {E : XK} (hr : Room 8 (A.deeper (envOfC "law" (fnScope (topS 64)) s.heap.objs.size f cdv))) (q : ∀ H', Q (.bl true) H') :
    ∃ t, PSs (Xl P w K mg base f cdv A outer s H0 E) ((fnBody (topS 64)).drop 14) t ∧ ∀ {H : Hp} {h c n o m ot ct b : Nat} {od : List Nat} {zs : List (Nat × Nat)} {sc v3 : V} {v10 v11 v12 v13 v14 : Option V}, Sit CB CO H h c n o m ot ct b od zs →
      t { nx := fun _ H' => Q .non H', rt := Q } [some sc, some (.ref h), some (.int (n : Int)), some v3, some (.ref ot), some (.ref o), some (.ref m), some (.int (b : Int)), some (.ref ct), some (.int ((inb zs od b : Nat) : Int)), v10, v11, v12, v13, v14, none, none, none, none] H := by
  refine ⟨_, pss_cons (ps_set (i := 15) nd rfl (Or.inl rfl) (pe_c C.bent hr (by decide) (by rfl) (pa_cons (pv 1) (pa_cons (pv 2) (pa_cons (pe_c C.crowd hr (by decide) (by rfl) (pa_cons (pv 9) pa_nil)) pa_nil)))))
    (pss_cons (ps_set (i := 16) nd rfl (Or.inl rfl) (pe_and (pe_c C.isCrowd hr (by decide) (by rfl) (pa_cons (pv 2) (pa_cons (pv 15) pa_nil))) (pe_one (pe_cmpR op_eq (pe_c C.bits hr (by decide) (by rfl) (pa_cons (pv 15) pa_nil)) (pv 9) (nomark _)))))
    (pss_one (ps_ret (pe_c C.flag hr (by decide) (by rfl) (pa_cons (pe_c C.quiet hr (by decide) (by rfl) (pa_cons (pv 5) (pa_cons (pv 8) (pa_cons (pv 15) pa_nil)))) (pa_cons (pv 16) pa_nil)))))), fun {H h c n o m ot ct b od zs sc v3 v10 v11 v12 v13 v14} S => ?_⟩
  have n12 : n ≤ 12 := by have := S.n6; omega
  refine ⟨_, rfl, _, rfl, _, rfl, inb zs od b, rfl, fun H1 p1 s1 e1 => ?_⟩
  have S1 := S.same s1
  refine ⟨h, c, n, p1, cr (inb zs od b), rfl, S1.hh, e1, Nat.le_trans (cr_ok S.ilt).len n12, fun H2 x b2 hh2 tx => ?_⟩
  have S2 := S1.but b2 hh2
  refine ⟨_, rfl, _, rfl, n, x, rfl, ?_⟩
  rcases tx with ⟨t, xs, rfl, et, hz, hx⟩ | hnt
  · refine .inl ⟨t, xs, rfl, et, hz, hx, fun H3 b1 s3 hb => ⟨_, rfl, ?_⟩⟩
    have S3 := S2.same s3
    cases b1 with
    | false =>
      refine iteF ?_
      refine ⟨_, rfl, _, rfl, _, rfl, o, ct, n, od, zs, cr b, _, rfl, S3.off, S.z57, n12, S3.ct_, S.cr_, S.in_od, .inl ⟨t, xs, rfl, s3 _ _ et, hz, fun y hy => (hx y hy).same s3, fun H4 b4 s4 hb4 => ⟨_, rfl, b4, false, rfl, ?_⟩⟩⟩
      have : b4 = false := by
        cases b4 with
        | false => rfl
        | true =>
          obtain ⟨ns, e, cns, _⟩ := hb4.mp rfl
          exact (Bool.false_ne_true (hb.mpr ⟨ns, e, cns⟩)).elim
      rw [this]
      exact q H4
    | true =>
      obtain ⟨ns, rfl, cns⟩ := hb.mp rfl
      refine iteT ⟨_, rfl, t, ns, rfl, s3 _ _ et, fun k hk => by have := cns.1 k hk; omega, _, rfl, rfl, ?_⟩
      rw [dec_int]
      refine ⟨_, rfl, _, rfl, _, rfl, o, ct, n, od, zs, cr b, _, rfl, S3.off, S.z57, n12, S3.ct_, S.cr_, S.in_od, .inl ⟨t, nums ns, rfl, s3 _ _ et, hz, fun y hy => (hx y hy).same s3, fun H4 b4 s4 hb4 => ⟨_, rfl, b4, _, rfl, ?_⟩⟩⟩
      have : b4 = decide (bn ns = inb zs od b) := by
        refine Bool.eq_iff_iff.mpr (hb4.trans ?_)
        rw [decide_eq_true_eq]
        refine ⟨fun ⟨ms, e, _, w1, w2⟩ => ?_, fun e => ⟨ns, rfl, cns, (S.quiet_same (bn ns)).mpr e⟩⟩
        rw [nums_inj e]
        exact (S.quiet_same (bn ms)).mp ⟨w1, w2⟩
      rw [this, decide_eq_true rfl]
      exact q H4
  · refine .inr ⟨hnt, _, rfl, iteF ?_⟩
    refine ⟨_, rfl, _, rfl, _, rfl, o, ct, n, od, zs, cr b, _, rfl, S2.off, S.z57, n12, S2.ct_, S.cr_, S.in_od, .inr ⟨hnt, fun H4 s4 => ⟨_, rfl, false, false, rfl, q H4⟩⟩⟩
end
end Lk
/-! The law's loops over rows of looks and over the crowd. -/
namespace Lk
open PySem PySem.Spec PyProof.Rows L2 C8
theorem map_getD (cs : List Nat) : (List.range cs.length).map (fun k => cs.getD k 0) = cs := by
  refine List.ext_getElem (by rw [List.length_map, List.length_range]) fun i h1 h2 => ?_
  rw [List.getElem_map, List.getElem_range, List.getD_eq_getElem?_getD, List.getElem?_eq_getElem h2]
  rfl
section
variable {P : Program} {w : World} {K : PySem.W.Frag} {mg : Str → Option Value} {base : Heap} {CB CO : Addr}
theorem law12 (B : Bi mg) (C : Calls P w K mg base CB CO) (nd : nLaw.Nodup) {f : Addr} {cdv : Value} {A : Around} {outer : List Env} {s : Shared} {H0 : Hp} {Q : VK} {E : XK} (hr : Room 8 (A.deeper (envOfC "law" (fnScope (topS 64)) s.heap.objs.size f cdv))) (q : ∀ H', Q (.bl true) H') :
    ∃ t, PSs (Xl P w K mg base f cdv A outer s H0 E) ((fnBody (topS 64)).drop 12) t ∧ ∀ {H : Hp} {h c n o m ot ct b : Nat} {od : List Nat} {zs : List (Nat × Nat)} {sc v3 : V} {v10 : Option V}, Sit CB CO H h c n o m ot ct b od zs →
      t { nx := fun _ H' => Q .non H', rt := Q } [some sc, some (.ref h), some (.int (n : Int)), some v3, some (.ref ot), some (.ref o), some (.ref m), some (.int (b : Int)), some (.ref ct), some (.int ((inb zs od b : Nat) : Int)), v10, none, none, none, none, none, none, none, none] H := by
  obtain ⟨t14, P14, R14⟩ := law14 C nd (f := f) (cdv := cdv) (outer := outer) (H0 := H0) (E := E) hr q
  have hu64 := hr.units
  refine ⟨_, pss_cons (ps_for PassesOwn.never rfl (pi_range1 (by rfl) B.range (pa_cons pe_int pa_nil)) (pg_name (i := 11) nd rfl (Or.inl rfl))
      (pss_cons (ps_set (i := 12) nd rfl (Or.inl rfl) (pe_tup pa_nil))
      (pss_cons (ps_for PassesOwn.never rfl (pi_range1 (by rfl) B.range (pa_cons (pe_callB call_len_seq (by rfl) B.len PySem.boot_len (pa_cons (pv 8) pa_nil)) pa_nil)) (pg_name (i := 13) nd rfl (Or.inl rfl))
        (pss_one (ps_set (i := 12) nd rfl (Or.inl rfl) (pe_op op_catA (pv 12) (pe_callTy call_tuple_of (by rfl) B.tuple (by decide +kernel) (pa_cons
          (pe_lc (own := [("_law_k", 18)]) (g := gName 18) (tt := tYes) rfl nd (pi_tup (pe_c C.order hr (by decide) (by rfl) (pa_cons (pv 1) (pa_cons (pe_callB call_len_seq (by rfl) B.len PySem.boot_len (pa_cons (pv 8) pa_nil)) pa_nil))))
            (blkOk_by (own := [("_law_k", 18)]) (N := nLaw) (sc := fnScope (topS 64)) (by decide +kernel)) (fun _ _ _ _ _ => pg_name (i := 18) nd rfl (Or.inl rfl)) (fun _ _ _ _ _ => pts_nil)
            (fun _ _ _ _ _ => pe_ix (ixT K) (pv 8) (pv 18) (fun _ _ => rfl))) pa_nil))))))
      (pss_cons (ps_set (i := 10) nd rfl (Or.inl rfl) (pe_op n_and (pe_c C.draw hr (by decide) (by rfl) (pa_cons (pv 1) (pa_cons (pe_op n_one pe_int (pv 2)) pa_nil))) (pv 7)))
      (pss_one (ps_if (pt_not (pt_val (pe_c C.isT hr (by decide) (by rfl) (pa_cons (pe_c C.through hr (by decide) (by rfl) (pa_cons (pv 5) (pa_cons (pv 8) (pa_cons (pe_c C.crowd hr (by decide) (by rfl) (pa_cons (pv 10) pa_nil)) (pa_cons (pv 12) pa_nil)))))
          (pa_cons (pe_c C.crowd hr (by decide) (by rfl) (pa_cons (pv 9) pa_nil)) pa_nil))))) (pss_one (ps_ret pe_bl)) pss_nil))))))
    (pss_cons (ps_for PassesOwn.never rfl (pi_tup (pv 8)) (pg_name (i := 14) nd rfl (Or.inl rfl))
      (pss_one (ps_if (pt_cmpR (neRow K hu64) (pe_c C.looked hr (by decide) (by rfl) (pa_cons (pv 5) (pa_cons (pv 8) (pa_cons (pe_c C.crowd hr (by decide) (by rfl) (pa_cons (pv 9) pa_nil)) (pa_cons (pv 14) pa_nil)))))
        (pe_c C.crowd hr (by decide) (by rfl) (pa_cons (pv 9) pa_nil)) (nomark _)) (pss_one (ps_ret pe_bl)) pss_nil))) P14), fun {H h c n o m ot ct b od zs sc v3 v10} S => ?_⟩
  have n12 : n ≤ 12 := by have := S.n6; omega
  have l6 : (cr b).length ≤ 6 := Nat.le_trans S.cr_.len S.n6
  refine ⟨4, rfl, by decide, by decide, ?_⟩
  refine for_it (walk_r0 (n := 4)) (fun i σ H' => ∃ v10 v11 v12 v13, σ = [some sc, some (.ref h), some (.int (n : Int)), some v3, some (.ref ot), some (.ref o), some (.ref m), some (.int (b : Int)), some (.ref ct), some (.int ((inb zs od b : Nat) : Int)), v10, v11, v12, v13, none, none, none, none, none] ∧ Sit CB CO H' h c n o m ot ct b od zs)
    ⟨_, _, _, _, rfl, S⟩ (fun i σ H' _ hp => trivial) (fun i y σ H1 H2 hi hp hy => ?_) (fun σ H1 hp => ?_)
  · obtain ⟨rfl, rfl⟩ := hy
    obtain ⟨v10, v11, v12, v13, rfl, S2⟩ := hp
    refine ⟨by show 0 ≤ sizeLine; decide, fun T hT => ?_⟩
    have sT := same_new (o := .tup []) hT
    refine ⟨_, rfl, ct, _, rfl, .inr (SqT.of (sT _ _ S2.ct_)), _, rfl, by rw [nums_len]; omega, by rw [nums_len]; omega, ?_⟩
    rw [Int.toNat_natCast, nums_len]
    refine for_it (walk_r0 (n := (cr b).length)) (fun j σ H' => ∃ v13 rt row, σ = [some sc, some (.ref h), some (.int (n : Int)), some v3, some (.ref ot), some (.ref o), some (.ref m), some (.int (b : Int)), some (.ref ct), some (.int ((inb zs od b : Nat) : Int)), v10, some (.int (i : Int)), some (.ref rt), v13, none, none, none, none, none] ∧
        Sit CB CO H' h c n o m ot ct b od zs ∧ H' rt = some (.tup (nums row)) ∧ Rounds (cr b) j row)
      ⟨_, T, [], rfl, S2.same sT, upd_same, .zero⟩ (fun j σ H' _ hp => trivial) (fun j y σ H3 H4 hj hp hy => ?_) (fun σ H3 hp => ?_)
    · obtain ⟨rfl, rfl⟩ := hy
      obtain ⟨v13, rt, row, rfl, S4, hrt, rd⟩ := hp
      refine ⟨_, rfl, _, rfl, _, rfl, ct, _, rfl, .inr (SqT.of S4.ct_), h, c, (cr b).length, by rw [nums_len]; rfl, S4.hh, by omega, fun H5 p os b5 hh5 hp pm => ⟨p, rfl, ⟨_, SqT.of hp⟩, fun D hD => ?_⟩⟩
      have S5 := S4.but b5 hh5
      have rt5 := b5.tup S4.hh hrt
      have osl : os.length ≤ 6 := by
        have := pm.length_eq
        rw [List.length_range] at this
        omega
      refine lc_it (walk_tup (xs := nums os)) (fun k H' => Acc H5 D (nums ((os.take k).map fun z => (cr b).getD z 0)) H') (acc_nil hD) (fun _ _ _ a => SqT.of (a.sm _ _ hp)) (fun k y H6 H7 hk a hy => ?_) (fun H6 a => ?_)
      · obtain ⟨rfl, hy⟩ := hy
        obtain ⟨z, hz, rfl⟩ := nums_get hy
        have zl : z < (cr b).length := List.mem_range.mp (pm.mem_iff.mp (List.mem_of_getElem? hz))
        refine ⟨rfl, _, rfl, _, rfl, ct, _, (z : Int), _, rfl, rfl, SqT.of (a.sm _ _ S5.ct_), atI_nat (nums_at (getD_at zl)), a.put hD ?_ ?_⟩
        · rw [nums_len, List.length_map, List.length_take]
          omega
        · rw [take_more _ hz, nums_app]
          rfl
      · rw [nums_len, List.take_length] at a
        refine ⟨D, _, rfl, .inl ⟨SqL.of a.at_, fun p2 hp2 => ?_⟩⟩
        have s6 := a.sm.trans (same_new (o := .tup (nums (os.map fun z => (cr b).getD z 0))) hp2)
        have rl := rd.len
        have jl : j * (cr b).length ≤ 6 * 6 := Nat.mul_le_mul (by omega) l6
        refine cat_any (s6 _ _ rt5) upd_same (by rw [nums_len, nums_len, List.length_map]; omega) (fun H8 p3 s8 e8 => ?_)
        refine ⟨_, p3, row ++ os.map fun z => (cr b).getD z 0, rfl, S5.same (s6.trans s8), by rw [e8, nums_app], .more rd ?_⟩
        have := pm.map fun z => (cr b).getD z 0
        rw [map_getD] at this
        exact this
    · obtain ⟨v13, rt, row, rfl, S4, hrt, rd⟩ := hp
      have h64 : 2 ^ n ≤ 64 := (Nat.pow_le_pow_right (by decide) S.n6 : 2 ^ n ≤ 2 ^ 6)
      have hpos := Nat.two_pow_pos n
      refine ⟨_, rfl, _, rfl, n, rfl, rfl, by omega, h, c, 2 ^ n, rfl, S4.hh, hpos, by omega, fun H5 k b5 hh5 hk => ⟨_, rfl, k, b, rfl, rfl, ?_⟩⟩
      have S5 := S4.but b5 hh5
      have rt5 := b5.tup S4.hh hrt
      have slt : k &&& b < 2 ^ n := Nat.lt_of_le_of_lt Nat.and_le_right S.bn_
      have hsub : ∀ z, (k &&& b).testBit z = true → b.testBit z = true := fun z hz => by
        rw [Nat.testBit_and, Bool.and_eq_true] at hz
        exact hz.2
      have sbn : bn (cr (k &&& b)) = k &&& b := bn_cr (by omega)
      refine ⟨_, rfl, _, rfl, _, rfl, k &&& b, rfl, fun H6 st s6 e6 => ?_⟩
      have S6 := S5.same s6
      have rl := rd.len
      have jl : (cr b).length * (cr b).length ≤ 6 * 6 := Nat.mul_le_mul l6 l6
      refine ⟨_, rfl, o, ct, st, rt, n, od, zs, cr b, cr (k &&& b), row, rfl, S6.off, S.z57, n12, S6.ct_, S.cr_, e6, cr_ok slt, ?_, s6 _ _ rt5, rd.mem, by omega, S.in_od, fun H7 r7 s7 e7 => ?_⟩
      · rw [sbn, S.bc]
        exact and_eq_iff.mpr hsub
      · rw [sbn, S.la.looks_end S.nd S.cr_.nodup S.hps S.hod hsub rd] at e7
        refine ⟨_, rfl, inb zs od b, rfl, fun H8 r8 s8 e8 => ?_⟩
        refine ⟨r7, r8, cr (inb zs od b), rfl, s8 _ _ e7, e8, Nat.le_trans (cr_ok S.ilt).len (by omega), fun H9 s9 => ⟨_, rfl, iteF ?_⟩⟩
        exact ⟨_, _, _, _, rfl, ((S6.same s7).same s8).same s9⟩
  · obtain ⟨v10, v11, v12, v13, rfl, S2⟩ := hp
    refine ⟨_, rfl, ct, rfl, ⟨_, SqT.of S2.ct_⟩, ?_⟩
    refine for_it (walk_tup (xs := nums (cr b))) (fun i σ H' => ∃ v14, σ = [some sc, some (.ref h), some (.int (n : Int)), some v3, some (.ref ot), some (.ref o), some (.ref m), some (.int (b : Int)), some (.ref ct), some (.int ((inb zs od b : Nat) : Int)), v10, v11, v12, v13, v14, none, none, none, none] ∧ Sit CB CO H' h c n o m ot ct b od zs)
      ⟨_, rfl, S2⟩ (fun i σ H' _ hp => ?_) (fun i y σ H3 H4 hi hp hy => ?_) (fun σ H3 hp => ?_)
    · obtain ⟨_, _, S3⟩ := hp
      exact SqT.of S3.ct_
    · obtain ⟨v14, rfl, S4⟩ := hp
      obtain ⟨rfl, hy⟩ := hy
      obtain ⟨p, hp, rfl⟩ := nums_get hy
      have pm := List.mem_of_getElem? hp
      refine ⟨_, rfl, _, rfl, _, rfl, inb zs od b, rfl, fun H5 st s5 e5 => ?_⟩
      have S5 := S4.same s5
      have ibn : bn (cr (inb zs od b)) = inb zs od b := bn_cr (by have := S.p64 S.ilt; omega)
      refine ⟨_, rfl, o, ct, st, p, n, od, zs, cr b, cr (inb zs od b), rfl, S5.off, S.z57, n12, S5.ct_, S.cr_, e5, cr_ok S.ilt, ?_, pm, S.in_od p pm, fun H6 r6 s6 e6 => ?_⟩
      · rw [ibn, S.bc]
        exact S.isub
      · rw [ibn, look_inb S.la S.nd (S.in_od p pm) ((S.hps p).mp pm)] at e6
        refine ⟨_, rfl, inb zs od b, rfl, fun H7 r7 s7 e7 => ?_⟩
        refine ⟨r6, r7, cr (inb zs od b), cr (inb zs od b), rfl, rfl, SqT.of (s7 _ _ e6), SqT.of e7, _, rfl, ?_⟩
        rw [decide_eq_true rfl]
        exact iteF ⟨_, rfl, (S5.same s6).same s7⟩
    · obtain ⟨v14, rfl, S3⟩ := hp
      exact R14 S3
end
end Lk
/-! The law, from its start on. -/
namespace Lk
open PySem PySem.Spec PyProof.Rows L2 C8
section
variable {P : Program} {w : World} {K : PySem.W.Frag} {mg : Str → Option Value} {base : Heap} {CB CO : Addr}
theorem law8 (B : Bi mg) (C : Calls P w K mg base CB CO) (nd : nLaw.Nodup) {f : Addr} {cdv : Value} {A : Around} {outer : List Env} {s : Shared} {H0 : Hp} {Q : VK} {E : XK} (hr : Room 8 (A.deeper (envOfC "law" (fnScope (topS 64)) s.heap.objs.size f cdv))) (q : ∀ H', Q (.bl true) H') :
    ∃ t, PSs (Xl P w K mg base f cdv A outer s H0 E) ((fnBody (topS 64)).drop 8) t ∧ ∀ {H : Hp} {h c n o m ot b : Nat} {od : List Nat} {zs : List (Nat × Nat)} {sc v3 : V}, (∀ H' ct, Same H H' → H' ct = some (.tup (nums (cr b))) → Sit CB CO H' h c n o m ot ct b od zs) →
      t { nx := fun _ H' => Q .non H', rt := Q } [some sc, some (.ref h), some (.int (n : Int)), some v3, some (.ref ot), some (.ref o), some (.ref m), some (.int (b : Int)), none, none, none, none, none, none, none, none, none, none, none] H := by
  obtain ⟨t12, P12, R12⟩ := law12 B C nd (f := f) (cdv := cdv) (outer := outer) (H0 := H0) (E := E) hr q
  have hu64 := hr.units
  refine ⟨_, pss_cons (ps_set (i := 8) nd rfl (Or.inr rfl) (pe_c C.crowd hr (by decide) (by rfl) (pa_cons (pv 7) pa_nil)))
    (pss_cons (ps_set (i := 9) nd rfl (Or.inl rfl) (pe_c C.let_ hr (by decide) (by rfl) (pa_cons (pv 6) (pa_cons (pv 4) (pa_cons (pv 7) pa_nil)))))
    (pss_cons (ps_if (pt_cmpR (neRow K hu64) (pe_c C.letIn hr (by decide) (by rfl) (pa_cons (pv 5) (pa_cons (pv 8) pa_nil))) (pe_c C.crowd hr (by decide) (by rfl) (pa_cons (pv 9) pa_nil)) (nomark _)) (pss_one (ps_ret pe_bl)) pss_nil)
    (pss_cons (ps_for PassesOwn.never rfl (pi_list (pe_lc (own := [("_law_some", 17)]) (g := gName 17) rfl nd (pi_range1 (by rfl) B.range (pa_cons (pe_op n_one pe_int (pv 2)) pa_nil))
        (blkOk_by (own := [("_law_some", 17)]) (N := nLaw) (sc := fnScope (topS 64)) (by decide +kernel)) (fun _ _ _ _ _ => pg_name (i := 17) nd rfl (Or.inl rfl))
        (fun _ _ _ _ _ => pts_one (pt_cmpR op_eq (pe_op n_and (pv 17) (pv 7)) (pv 17) (nomark _))) (fun _ _ _ _ _ => pv 17))) (pg_name (i := 10) nd rfl (Or.inl rfl))
      (pss_one (ps_if (pt_not (pt_val (pe_c C.flag hr (by decide) (by rfl) (pa_cons (pe_c C.quiet hr (by decide) (by rfl) (pa_cons (pv 5) (pa_cons (pv 8) (pa_cons (pe_c C.crowd hr (by decide) (by rfl) (pa_cons (pv 10) pa_nil)) pa_nil))))
        (pa_cons (pe_cmpR op_eq (pv 10) (pv 9) (nomark _)) pa_nil))))) (pss_one (ps_ret pe_bl)) pss_nil))) P12))), fun {H h c n o m ot b od zs sc v3} hS => ?_⟩
  refine ⟨_, rfl, b, rfl, fun H1 ct s1 e1 => ?_⟩
  have S1 := hS H1 ct s1 e1
  have n12 : n ≤ 12 := by have := S1.n6; omega
  refine ⟨_, rfl, _, rfl, _, rfl, m, ot, zs.map (·.1), od, b, rfl, S1.ms, S1.od_, S1.od1000, by rw [List.length_map]; have := S1.z57; omega, fun H2 s2 => ?_⟩
  rw [S1.la.linb_eq S1.nd]
  have S2 := S1.same s2
  refine ⟨_, rfl, _, rfl, o, ct, n, od, zs, cr b, rfl, S2.off, S1.z57, fun k hk => S1.mem.mp hk, n12, S2.ct_, S1.cr_, fun H3 p3 s3 e3 => ?_⟩
  rw [S1.bc] at e3
  refine ⟨_, rfl, inb zs od b, rfl, fun H4 p4 s4 e4 => ?_⟩
  refine ⟨p3, p4, _, _, rfl, rfl, SqT.of (s4 _ _ e3), SqT.of e4, _, rfl, ?_⟩
  rw [decide_eq_true rfl]
  refine iteF ?_
  have S4 := (S2.same s3).same s4
  clear e1 e3 e4
  have h64 : 2 ^ n ≤ 64 := (Nat.pow_le_pow_right (by decide) S1.n6 : 2 ^ n ≤ 2 ^ 6)
  refine ⟨_, rfl, n, rfl, rfl, by omega, _, rfl, by generalize 2 ^ n = N; omega, by have h := h64; generalize 2 ^ n = N at h ⊢; omega, fun D hD => ?_⟩
  rw [Int.toNat_natCast]
  refine lc_it (walk_r0 (n := 2 ^ n)) (fun i => Acc H4 D (nums ((List.range i).filter fun s => decide (s &&& b = s)))) (acc_nil hD) (fun _ _ _ _ => trivial) (fun i y H5 H6 hi a hy => ?_) (fun H5 a => ?_)
  · obtain ⟨rfl, rfl⟩ := hy
    refine ⟨rfl, _, rfl, _, rfl, i, b, rfl, rfl, _, rfl, rfl, _, rfl, ?_⟩
    rw [dec_int, filter_more]
    cases decide (i &&& b = i) with
    | false =>
      simp only [Bool.false_eq_true, if_false, List.append_nil]
      exact a
    | true =>
      refine iteT ⟨_, rfl, a.put hD ?_ ?_⟩
      · rw [nums_len]
        exact Nat.le_trans (List.length_filter_le _ _) (by rw [List.length_range]; omega)
      · rw [nums_app]
        rfl
  · have S5 := S4.same a.sm
    have dl := a.at_
    refine ⟨D, rfl, ⟨_, SqL.of dl⟩, ?_⟩
    refine for_it (walk_list (xs := nums ((List.range (2 ^ n)).filter fun s => decide (s &&& b = s)))) (fun i σ H' => ∃ v10, σ = [some sc, some (.ref h), some (.int (n : Int)), some v3, some (.ref ot), some (.ref o), some (.ref m), some (.int (b : Int)), some (.ref ct), some (.int ((inb zs od b : Nat) : Int)), v10, none, none, none, none, none, none, none, none] ∧ Same H5 H')
      ⟨_, rfl, fun _ _ e => e⟩ (fun i σ H' _ hp => ?_) (fun i y σ H6 H7 hi hp hy => ?_) (fun σ H6 hp => ?_)
    · obtain ⟨_, _, s6⟩ := hp
      exact SqL.of (s6 _ _ dl)
    · obtain ⟨v10, rfl, s7⟩ := hp
      obtain ⟨rfl, hy⟩ := hy
      obtain ⟨u, hu, rfl⟩ := nums_get hy
      obtain ⟨hu1, hu2⟩ := List.mem_filter.mp (List.mem_of_getElem? hu)
      have hu1 := List.mem_range.mp hu1
      have hu2 : b &&& u = u := by
        rw [Nat.and_comm]
        exact of_decide_eq_true hu2
      have S7 := S5.same s7
      refine ⟨_, rfl, _, rfl, _, rfl, u, rfl, fun H8 st s8 e8 => ?_⟩
      have S8 := S7.same s8
      have ub : bn (cr u) = u := bn_cr (by omega)
      have ucr := cr_ok hu1
      refine ⟨o, ct, n, od, zs, cr b, _, rfl, S8.off, S1.z57, n12, S8.ct_, S1.cr_, S1.in_od, .inl ⟨st, _, rfl, e8, by rw [nums_len]; have := ucr.len; omega, fun z hz => thg_nums hz, fun H9 bb s9 hb => ?_⟩⟩
      refine ⟨_, rfl, _, rfl, rfl, ?_⟩
      rw [dec_int]
      refine ⟨bb, _, rfl, _, rfl, ?_⟩
      have : bb = decide (u = inb zs od b) := by
        refine Bool.eq_iff_iff.mpr (hb.trans ?_)
        rw [decide_eq_true_eq]
        refine ⟨fun ⟨ms, e, _, w1, w2⟩ => ?_, fun e => ⟨cr u, rfl, ucr, ?_⟩⟩
        · rw [← nums_inj e, ub] at w1 w2
          exact (S1.quiet_same u).mp ⟨w1, w2⟩
        · rw [ub]
          exact (S1.quiet_same u).mpr e
      rw [this, decide_eq_true rfl]
      exact iteF ⟨_, rfl, (s7.trans s8).trans s9⟩
    · obtain ⟨v10, rfl, s6⟩ := hp
      exact R12 (S5.same s6)
theorem ok_law (B : Bi mg) (C : Calls P w K mg base CB CO) {f : Addr} {fd : FuncData} (F : C8.Fun K "law" "law" (topS 64) f fd) : FnOk P w K mg base C8.CX0 9 f fd ["_law_script"] (spLaw K) := by
  have SC : FnScope nLaw ["_law_script"] (fnScope (topS 64)) := fnScope_by (by decide +kernel)
  refine fn0 F SC (fun vs H Q E h => ?_) (fun cdv A outer s H vs Q E hr h => ?_)
  · obtain ⟨a, ns, rfl, _⟩ := h
    rfl
  · obtain ⟨a, ns, rfl, hS, hl, q⟩ := h
    have nd := SC.nd
    obtain ⟨t8, P8, R8⟩ := law8 B C nd (f := f) (cdv := cdv) (outer := outer) (H0 := H) (E := E) hr q
    refine ⟨_, pss_cons (ps_set (i := 1) nd rfl (Or.inl rfl) (pe_c C.hand hr (by decide) (by rfl) (pa_cons (pv 0) pa_nil)))
      (pss_cons (ps_set (i := 2) nd rfl (Or.inl rfl) (pe_c C.people hr (by decide) (by rfl) (pa_cons (pv 1) (pa_cons pe_int pa_nil))))
      (pss_cons (ps_set (i := 3) nd rfl (Or.inl rfl) (pe_c C.lots hr (by decide) (by rfl) (pa_cons (pv 1) (pa_cons (pv 2) pa_nil))))
      (pss_cons (ps_set (i := 4) nd rfl (Or.inl rfl) (pe_c C.order hr (by decide) (by rfl) (pa_cons (pv 1) (pa_cons (pv 2) pa_nil))))
      (pss_cons (ps_set (i := 5) nd rfl (Or.inl rfl) (pe_mk C.office hr (by decide) (by rfl) (pa_cons (pe_mk C.book hr (by decide) (by rfl) (pa_cons (pv 2) (pa_cons (pv 3) pa_nil))) (pa_cons (pv 4) pa_nil))))
      (pss_cons (ps_set (i := 6) nd rfl (Or.inl rfl) (pe_c C.masks hr (by decide) (by rfl) (pa_cons (pv 3) pa_nil)))
      (pss_cons (ps_set (i := 7) nd rfl (Or.inr rfl) (pe_c C.draw hr (by decide) (by rfl) (pa_cons (pv 1) (pa_cons (pe_op n_one pe_int (pv 2)) pa_nil))))
      (pss_cons (ps_if (pt_cmpR op_eq (pe_c C.draw hr (by decide) (by rfl) (pa_cons (pv 1) (pa_cons pe_int pa_nil))) pe_int (nomark _))
        (pss_one (ps_set (i := 7) nd rfl (Or.inr rfl) (pe_op op_sub (pe_op n_one pe_int (pv 2)) pe_int))) pss_nil) P8))))))), ?_⟩
    refine ⟨_, rfl, a, ns, rfl, hS, hl, fun H1 h c s1 hh1 => ?_⟩
    refine ⟨_, rfl, h, c, rfl, hh1, fun H2 n b2 hh2 n1 n6 => ?_⟩
    refine ⟨_, rfl, _, rfl, h, c, n, rfl, hh2, n1, n6, trivial, fun H3 t ks b3 hh3 ht hL => ?_⟩
    refine ⟨_, rfl, _, rfl, h, c, n, rfl, hh3, by omega, fun H4 ot od b4 hh4 ho pm => ?_⟩
    have t4 := b4.rws hh3 ht
    have few := hL.few n6
    have lks : ks.length ≤ 57 := by
      have z : (rows ks).length = ks.length := List.length_map _
      omega
    have kcr : ∀ p ∈ ks, Cr n p.2 ∧ 2 ≤ p.2.length := fun p hp => hL.cr p.2 (List.mem_map.mpr ⟨p, hp, rfl⟩)
    -- Office(Book(people, lots), order)
    refine ⟨_, rfl, _, rfl, fun x dx hx hdx hne => ?_⟩
    have s5 : Same H4 (upd (upd H4 dx (.own x)) x (.ins CB dx [])) := fun y o e => by
      rw [upd_ne (ne_of_none e hx), upd_ne (ne_of_none e hdx)]
      exact e
    refine ⟨x, dx, t, n, ks, rfl, upd_same, t4.same s5, hL, n1, n6, fun H5 ml b5 x5 m5 => ⟨rfl, ?_⟩⟩
    have s45 : Same H4 H5 := fun y o e => b5 y o (ne_of_none e hx) (s5 y o e)
    refine ⟨_, rfl, fun x2 dx2 hx2 hdx2 hne2 => ?_⟩
    have s6 : Same H5 (upd (upd H5 dx2 (.own x2)) x2 (.ins CO dx2 [])) := fun y o e => by
      rw [upd_ne (ne_of_none e hx2), upd_ne (ne_of_none e hdx2)]
      exact e
    refine ⟨x2, dx2, x, dx, t, ml, ot, n, ks, od, rfl, upd_same, s6 _ _ x5, s6 _ _ m5, (t4.same s45).same s6, kcr, lks, s6 _ _ (s45 _ _ ho), pm.nodup_iff.mpr List.nodup_range, fun k hk => List.mem_range.mp (pm.mem_iff.mp hk), by rw [pm.length_eq, List.length_range], n6,
      fun H6 zs b6 off la fz => ⟨rfl, ?_⟩⟩
    have s46 : Same H4 H6 := s45.trans fun y o e => b6 y o (ne_of_none e hx2) (s6 y o e)
    have t6 := t4.same s46
    have hh6 := hh4.same s46
    have z57 : zs.length ≤ 57 := by
      have z := congrArg List.length fz
      rw [List.length_map, List.length_map] at z
      omega
    refine ⟨_, rfl, t, ks, rfl, t6, fun p hp => (kcr p hp).1.mono (by omega), by omega, fun H7 m s7 m7 => ?_⟩
    rw [maskV_nums, ← fz] at m7
    have hh7 := hh6.same s7
    have h64 : 2 ^ n ≤ 64 := (Nat.pow_le_pow_right (by decide) n6 : 2 ^ n ≤ 2 ^ 6)
    have hpos := Nat.two_pow_pos n
    have off7 := off.same s7
    have o7 := s7 _ _ (s46 _ _ ho)
    refine ⟨_, rfl, _, rfl, n, rfl, rfl, by omega, h, c, 2 ^ n, rfl, hh7, hpos, by omega, fun H8 b b8 hh8 hb => ?_⟩
    refine ⟨_, rfl, h, c, 3, rfl, hh8, by decide, by decide, fun H9 k b9 hh9 hk => ⟨rfl, _, rfl, ?_⟩⟩
    have b79 := b8.trans b9
    have sit : ∀ b, b < 2 ^ n → ∀ H' ct, Same H9 H' → H' ct = some (.tup (nums (cr b))) → Sit CB CO H' h c n x2 m ot ct b od zs := fun b hb H' ct s' e' =>
      ⟨hh9.same s', (off7.but b79 hh7).same s', la, s' _ _ (b79 _ _ (hh7.neN m7) m7), s' _ _ (b79.tup hh7 o7), pm, n1, n6, z57, hb, e'⟩
    refine ite2 (fun _ => ?_) (fun _ => R8 (sit b hb))
    refine ⟨_, rfl, n, rfl, rfl, by omega, _, _, rfl, rfl, ?_⟩
    have e : (((2 ^ n : Nat) : Int) - 1) = ((2 ^ n - 1 : Nat) : Int) := by omega
    have r := R8 (sc := V.ref a) (v3 := V.ref t) (sit (2 ^ n - 1) (by omega))
    rw [← e] at r
    exact r
end
end Lk
/-! What the top has written, gathered. -/
namespace Lk
open PySem PySem.Spec PyProof.Rows L2 C8
section
variable {K : PySem.W.Frag} {h : Heap} {mg : Str → Option Value}
theorem has_of {x : Str} {st : Stmt} {ps : List Str} {f : Addr} {od an : Option Addr} {sl : Array (Option Value)} {oc kV dc pm cd ct : Value} (X : K.In h) (G : h.Ns mainGlobals mg)
    (a : PySem.W.nsIn K mainGlobals x = some (some (.ref f))) (l : K.lookup f = some ⟨oc, od, .func (PySem.W.fnOf x x (fnArgs st) (fnBody st) (fnScope st) .none kV dc pm an cd ct), sl⟩) (c : PySem.W.codeIn K cd x = true) (k : PySem.W.keepIn K (.ref f) = true)
    (b : ∀ (kV doc pm : Value) (an : Option Addr) (cdv ct : Value) (us : List Value), us.length = ps.length → bindArgs (PySem.W.fnOf x x (fnArgs st) (fnBody st) (fnScope st) .none kV doc pm an cdv ct) ⟨us, []⟩ = pure (ps.zip us)) : Has K mg x st ps :=
  have F : C8.Fun K x x st f (PySem.W.fnOf x x (fnArgs st) (fnBody st) (fnScope st) .none kV dc pm an cd ct) := ⟨⟨oc, od, .none, kV, dc, pm, an, cd, ct, sl, rfl, l, c⟩⟩
  ⟨f, _, ⟨F, PySem.W.mg_of X G a, k⟩, F.binds rfl b⟩
theorem hasM_of {C : Addr} {m qual : Str} {st : Stmt} {ps : List Str} {f : Addr} {od an : Option Addr} {sl : Array (Option Value)} {oc kV dc pm cd ct : Value}
    (a : PySem.W.findIn K (.ref C) m = some (some (.ref f))) (i : PySem.W.isFn K (.ref f) = true) (l : K.lookup f = some ⟨oc, od, .func (PySem.W.fnOf m qual (fnArgs st) (fnBody st) (fnScope st) .none kV dc pm an cd ct), sl⟩) (c : PySem.W.codeIn K cd qual = true) (k : PySem.W.keepIn K (.ref f) = true)
    (b : ∀ (kV doc pm : Value) (an : Option Addr) (cdv ct : Value) (us : List Value), us.length = ps.length → bindArgs (PySem.W.fnOf m qual (fnArgs st) (fnBody st) (fnScope st) .none kV doc pm an cdv ct) ⟨us, []⟩ = pure (ps.zip us)) : HasM K C m qual st ps :=
  have F : C8.Fun K m qual st f (PySem.W.fnOf m qual (fnArgs st) (fnBody st) (fnScope st) .none kV dc pm an cd ct) := ⟨⟨oc, od, .none, kV, dc, pm, an, cd, ct, sl, rfl, l, c⟩⟩
  ⟨f, _, ⟨a, i, k⟩, F, F.binds rfl b⟩
theorem hasI_of {C : Addr} {x qual : Str} {st : Stmt} {ps : List Str} {f : Addr} {od an : Option Addr} {sl : Array (Option Value)} {oc kV dc pm cd ct : Value} (hm : mg x = some (.ref C)) (mk : PySem.W.makesIn K C = true)
    (a : PySem.W.findIn K (.ref C) "__init__" = some (some (.ref f))) (i : PySem.W.isFn K (.ref f) = true) (l : K.lookup f = some ⟨oc, od, .func (PySem.W.fnOf "__init__" qual (fnArgs st) (fnBody st) (fnScope st) .none kV dc pm an cd ct), sl⟩) (c : PySem.W.codeIn K cd qual = true) (k : PySem.W.keepIn K (.ref C) = true)
    (b : ∀ (kV doc pm : Value) (an : Option Addr) (cdv ct : Value) (us : List Value), us.length = ps.length → bindArgs (PySem.W.fnOf "__init__" qual (fnArgs st) (fnBody st) (fnScope st) .none kV doc pm an cdv ct) ⟨us, []⟩ = pure (ps.zip us)) : HasI K mg x C qual st ps :=
  have F : C8.Fun K "__init__" qual st f (PySem.W.fnOf "__init__" qual (fnArgs st) (fnBody st) (fnScope st) .none kV dc pm an cd ct) := ⟨⟨oc, od, .none, kV, dc, pm, an, cd, ct, sl, rfl, l, c⟩⟩
  ⟨f, _, ⟨mk, a, i, k⟩, hm, F, F.binds rfl b⟩
theorem mk10 {f : Addr} {od an : Option Addr} {sl : Array (Option Value)} {oc kV dc pm cd ct : Value} (X : K.In h) (G : h.Ns mainGlobals mg) (a : PySem.W.nsIn K mainGlobals "is_integer" = some (some (.ref f)))
    (l : K.lookup f = some ⟨oc, od, .func (PySem.W.fnOf "is_integer" "is_integer" (fnArgs (topS 10)) (fnBody (topS 10)) (fnScope (topS 10)) .none kV dc pm an cd ct), sl⟩) (c : PySem.W.codeIn K cd "is_integer" = true) (k : PySem.W.keepIn K (.ref f) = true) : Has K mg "is_integer" (topS 10) ["thing"] :=
  has_of X G a l c k (fun _ _ _ _ _ _ us hl => match us, hl with | [_], _ => rfl)
theorem mk11 {f : Addr} {od an : Option Addr} {sl : Array (Option Value)} {oc kV dc pm cd ct : Value} (X : K.In h) (G : h.Ns mainGlobals mg) (a : PySem.W.nsIn K mainGlobals "is_within" = some (some (.ref f)))
    (l : K.lookup f = some ⟨oc, od, .func (PySem.W.fnOf "is_within" "is_within" (fnArgs (topS 11)) (fnBody (topS 11)) (fnScope (topS 11)) .none kV dc pm an cd ct), sl⟩) (c : PySem.W.codeIn K cd "is_within" = true) (k : PySem.W.keepIn K (.ref f) = true) : Has K mg "is_within" (topS 11) ["thing", "least", "most"] :=
  has_of X G a l c k (fun _ _ _ _ _ _ us hl => match us, hl with | [_, _, _], _ => rfl)
theorem mk12 {f : Addr} {od an : Option Addr} {sl : Array (Option Value)} {oc kV dc pm cd ct : Value} (X : K.In h) (G : h.Ns mainGlobals mg) (a : PySem.W.nsIn K mainGlobals "are_ascending" = some (some (.ref f)))
    (l : K.lookup f = some ⟨oc, od, .func (PySem.W.fnOf "are_ascending" "are_ascending" (fnArgs (topS 12)) (fnBody (topS 12)) (fnScope (topS 12)) .none kV dc pm an cd ct), sl⟩) (c : PySem.W.codeIn K cd "are_ascending" = true) (k : PySem.W.keepIn K (.ref f) = true) : Has K mg "are_ascending" (topS 12) ["things"] :=
  has_of X G a l c k (fun _ _ _ _ _ _ us hl => match us, hl with | [_], _ => rfl)
theorem mk13 {f : Addr} {od an : Option Addr} {sl : Array (Option Value)} {oc kV dc pm cd ct : Value} (X : K.In h) (G : h.Ns mainGlobals mg) (a : PySem.W.nsIn K mainGlobals "are_persons" = some (some (.ref f)))
    (l : K.lookup f = some ⟨oc, od, .func (PySem.W.fnOf "are_persons" "are_persons" (fnArgs (topS 13)) (fnBody (topS 13)) (fnScope (topS 13)) .none kV dc pm an cd ct), sl⟩) (c : PySem.W.codeIn K cd "are_persons" = true) (k : PySem.W.keepIn K (.ref f) = true) : Has K mg "are_persons" (topS 13) ["people", "thing"] :=
  has_of X G a l c k (fun _ _ _ _ _ _ us hl => match us, hl with | [_, _], _ => rfl)
theorem mk14 {f : Addr} {od an : Option Addr} {sl : Array (Option Value)} {oc kV dc pm cd ct : Value} (X : K.In h) (G : h.Ns mainGlobals mg) (a : PySem.W.nsIn K mainGlobals "is_crowd" = some (some (.ref f)))
    (l : K.lookup f = some ⟨oc, od, .func (PySem.W.fnOf "is_crowd" "is_crowd" (fnArgs (topS 14)) (fnBody (topS 14)) (fnScope (topS 14)) .none kV dc pm an cd ct), sl⟩) (c : PySem.W.codeIn K cd "is_crowd" = true) (k : PySem.W.keepIn K (.ref f) = true) : Has K mg "is_crowd" (topS 14) ["people", "thing"] :=
  has_of X G a l c k (fun _ _ _ _ _ _ us hl => match us, hl with | [_, _], _ => rfl)
theorem mk15 {f : Addr} {od an : Option Addr} {sl : Array (Option Value)} {oc kV dc pm cd ct : Value} (X : K.In h) (G : h.Ns mainGlobals mg) (a : PySem.W.nsIn K mainGlobals "is_lot" = some (some (.ref f)))
    (l : K.lookup f = some ⟨oc, od, .func (PySem.W.fnOf "is_lot" "is_lot" (fnArgs (topS 15)) (fnBody (topS 15)) (fnScope (topS 15)) .none kV dc pm an cd ct), sl⟩) (c : PySem.W.codeIn K cd "is_lot" = true) (k : PySem.W.keepIn K (.ref f) = true) : Has K mg "is_lot" (topS 15) ["people", "thing"] :=
  has_of X G a l c k (fun _ _ _ _ _ _ us hl => match us, hl with | [_, _], _ => rfl)
theorem mk16 {f : Addr} {od an : Option Addr} {sl : Array (Option Value)} {oc kV dc pm cd ct : Value} (X : K.In h) (G : h.Ns mainGlobals mg) (a : PySem.W.nsIn K mainGlobals "is_row" = some (some (.ref f)))
    (l : K.lookup f = some ⟨oc, od, .func (PySem.W.fnOf "is_row" "is_row" (fnArgs (topS 16)) (fnBody (topS 16)) (fnScope (topS 16)) .none kV dc pm an cd ct), sl⟩) (c : PySem.W.codeIn K cd "is_row" = true) (k : PySem.W.keepIn K (.ref f) = true) : Has K mg "is_row" (topS 16) ["people", "thing"] :=
  has_of X G a l c k (fun _ _ _ _ _ _ us hl => match us, hl with | [_, _], _ => rfl)
theorem mk17 {f : Addr} {od an : Option Addr} {sl : Array (Option Value)} {oc kV dc pm cd ct : Value} (X : K.In h) (G : h.Ns mainGlobals mg) (a : PySem.W.nsIn K mainGlobals "is_order" = some (some (.ref f)))
    (l : K.lookup f = some ⟨oc, od, .func (PySem.W.fnOf "is_order" "is_order" (fnArgs (topS 17)) (fnBody (topS 17)) (fnScope (topS 17)) .none kV dc pm an cd ct), sl⟩) (c : PySem.W.codeIn K cd "is_order" = true) (k : PySem.W.keepIn K (.ref f) = true) : Has K mg "is_order" (topS 17) ["people", "thing"] :=
  has_of X G a l c k (fun _ _ _ _ _ _ us hl => match us, hl with | [_, _], _ => rfl)
theorem mk18 {f : Addr} {od an : Option Addr} {sl : Array (Option Value)} {oc kV dc pm cd ct : Value} (X : K.In h) (G : h.Ns mainGlobals mg) (a : PySem.W.nsIn K mainGlobals "check_crowd" = some (some (.ref f)))
    (l : K.lookup f = some ⟨oc, od, .func (PySem.W.fnOf "check_crowd" "check_crowd" (fnArgs (topS 18)) (fnBody (topS 18)) (fnScope (topS 18)) .none kV dc pm an cd ct), sl⟩) (c : PySem.W.codeIn K cd "check_crowd" = true) (k : PySem.W.keepIn K (.ref f) = true) : Has K mg "check_crowd" (topS 18) ["people", "thing"] :=
  has_of X G a l c k (fun _ _ _ _ _ _ us hl => match us, hl with | [_, _], _ => rfl)
theorem mk19 {f : Addr} {od an : Option Addr} {sl : Array (Option Value)} {oc kV dc pm cd ct : Value} (X : K.In h) (G : h.Ns mainGlobals mg) (a : PySem.W.nsIn K mainGlobals "check_member" = some (some (.ref f)))
    (l : K.lookup f = some ⟨oc, od, .func (PySem.W.fnOf "check_member" "check_member" (fnArgs (topS 19)) (fnBody (topS 19)) (fnScope (topS 19)) .none kV dc pm an cd ct), sl⟩) (c : PySem.W.codeIn K cd "check_member" = true) (k : PySem.W.keepIn K (.ref f) = true) : Has K mg "check_member" (topS 19) ["crowd", "thing"] :=
  has_of X G a l c k (fun _ _ _ _ _ _ us hl => match us, hl with | [_, _], _ => rfl)
theorem mk20 {f : Addr} {od an : Option Addr} {sl : Array (Option Value)} {oc kV dc pm cd ct : Value} (X : K.In h) (G : h.Ns mainGlobals mg) (a : PySem.W.nsIn K mainGlobals "bits_of" = some (some (.ref f)))
    (l : K.lookup f = some ⟨oc, od, .func (PySem.W.fnOf "bits_of" "bits_of" (fnArgs (topS 20)) (fnBody (topS 20)) (fnScope (topS 20)) .none kV dc pm an cd ct), sl⟩) (c : PySem.W.codeIn K cd "bits_of" = true) (k : PySem.W.keepIn K (.ref f) = true) : Has K mg "bits_of" (topS 20) ["crowd"] :=
  has_of X G a l c k (fun _ _ _ _ _ _ us hl => match us, hl with | [_], _ => rfl)
theorem mk21 {f : Addr} {od an : Option Addr} {sl : Array (Option Value)} {oc kV dc pm cd ct : Value} (X : K.In h) (G : h.Ns mainGlobals mg) (a : PySem.W.nsIn K mainGlobals "crowd_of" = some (some (.ref f)))
    (l : K.lookup f = some ⟨oc, od, .func (PySem.W.fnOf "crowd_of" "crowd_of" (fnArgs (topS 21)) (fnBody (topS 21)) (fnScope (topS 21)) .none kV dc pm an cd ct), sl⟩) (c : PySem.W.codeIn K cd "crowd_of" = true) (k : PySem.W.keepIn K (.ref f) = true) : Has K mg "crowd_of" (topS 21) ["bits"] :=
  has_of X G a l c k (fun _ _ _ _ _ _ us hl => match us, hl with | [_], _ => rfl)
theorem mk22 {f : Addr} {od an : Option Addr} {sl : Array (Option Value)} {oc kV dc pm cd ct : Value} (X : K.In h) (G : h.Ns mainGlobals mg) (a : PySem.W.nsIn K mainGlobals "holds" = some (some (.ref f)))
    (l : K.lookup f = some ⟨oc, od, .func (PySem.W.fnOf "holds" "holds" (fnArgs (topS 22)) (fnBody (topS 22)) (fnScope (topS 22)) .none kV dc pm an cd ct), sl⟩) (c : PySem.W.codeIn K cd "holds" = true) (k : PySem.W.keepIn K (.ref f) = true) : Has K mg "holds" (topS 22) ["bits", "some"] :=
  has_of X G a l c k (fun _ _ _ _ _ _ us hl => match us, hl with | [_, _], _ => rfl)
theorem mk25 {f : Addr} {od an : Option Addr} {sl : Array (Option Value)} {oc kV dc pm cd ct : Value} (X : K.In h) (G : h.Ns mainGlobals mg) (a : PySem.W.nsIn K mainGlobals "first_wrong_lot" = some (some (.ref f)))
    (l : K.lookup f = some ⟨oc, od, .func (PySem.W.fnOf "first_wrong_lot" "first_wrong_lot" (fnArgs (topS 25)) (fnBody (topS 25)) (fnScope (topS 25)) .none kV dc pm an cd ct), sl⟩) (c : PySem.W.codeIn K cd "first_wrong_lot" = true) (k : PySem.W.keepIn K (.ref f) = true) : Has K mg "first_wrong_lot" (topS 25) ["people", "lots"] :=
  has_of X G a l c k (fun _ _ _ _ _ _ us hl => match us, hl with | [_, _], _ => rfl)
theorem mk28 {f : Addr} {od an : Option Addr} {sl : Array (Option Value)} {oc kV dc pm cd ct : Value} (X : K.In h) (G : h.Ns mainGlobals mg) (a : PySem.W.nsIn K mainGlobals "lasts_in" = some (some (.ref f)))
    (l : K.lookup f = some ⟨oc, od, .func (PySem.W.fnOf "lasts_in" "lasts_in" (fnArgs (topS 28)) (fnBody (topS 28)) (fnScope (topS 28)) .none kV dc pm an cd ct), sl⟩) (c : PySem.W.codeIn K cd "lasts_in" = true) (k : PySem.W.keepIn K (.ref f) = true) : Has K mg "lasts_in" (topS 28) ["book", "order"] :=
  has_of X G a l c k (fun _ _ _ _ _ _ us hl => match us, hl with | [_, _], _ => rfl)
theorem mk30 {f : Addr} {od an : Option Addr} {sl : Array (Option Value)} {oc kV dc pm cd ct : Value} (X : K.In h) (G : h.Ns mainGlobals mg) (a : PySem.W.nsIn K mainGlobals "is_barred" = some (some (.ref f)))
    (l : K.lookup f = some ⟨oc, od, .func (PySem.W.fnOf "is_barred" "is_barred" (fnArgs (topS 30)) (fnBody (topS 30)) (fnScope (topS 30)) .none kV dc pm an cd ct), sl⟩) (c : PySem.W.codeIn K cd "is_barred" = true) (k : PySem.W.keepIn K (.ref f) = true) : Has K mg "is_barred" (topS 30) ["office", "inside", "person"] :=
  has_of X G a l c k (fun _ _ _ _ _ _ us hl => match us, hl with | [_, _, _], _ => rfl)
theorem mk31 {f : Addr} {od an : Option Addr} {sl : Array (Option Value)} {oc kV dc pm cd ct : Value} (X : K.In h) (G : h.Ns mainGlobals mg) (a : PySem.W.nsIn K mainGlobals "in_bits" = some (some (.ref f)))
    (l : K.lookup f = some ⟨oc, od, .func (PySem.W.fnOf "in_bits" "in_bits" (fnArgs (topS 31)) (fnBody (topS 31)) (fnScope (topS 31)) .none kV dc pm an cd ct), sl⟩) (c : PySem.W.codeIn K cd "in_bits" = true) (k : PySem.W.keepIn K (.ref f) = true) : Has K mg "in_bits" (topS 31) ["office", "bits"] :=
  has_of X G a l c k (fun _ _ _ _ _ _ us hl => match us, hl with | [_, _], _ => rfl)
theorem mk32 {f : Addr} {od an : Option Addr} {sl : Array (Option Value)} {oc kV dc pm cd ct : Value} (X : K.In h) (G : h.Ns mainGlobals mg) (a : PySem.W.nsIn K mainGlobals "let_in" = some (some (.ref f)))
    (l : K.lookup f = some ⟨oc, od, .func (PySem.W.fnOf "let_in" "let_in" (fnArgs (topS 32)) (fnBody (topS 32)) (fnScope (topS 32)) .none kV dc pm an cd ct), sl⟩) (c : PySem.W.codeIn K cd "let_in" = true) (k : PySem.W.keepIn K (.ref f) = true) : Has K mg "let_in" (topS 32) ["office", "crowd"] :=
  has_of X G a l c k (fun _ _ _ _ _ _ us hl => match us, hl with | [_, _], _ => rfl)
theorem mk35 {f : Addr} {od an : Option Addr} {sl : Array (Option Value)} {oc kV dc pm cd ct : Value} (X : K.In h) (G : h.Ns mainGlobals mg) (a : PySem.W.nsIn K mainGlobals "look_bits" = some (some (.ref f)))
    (l : K.lookup f = some ⟨oc, od, .func (PySem.W.fnOf "look_bits" "look_bits" (fnArgs (topS 35)) (fnBody (topS 35)) (fnScope (topS 35)) .none kV dc pm an cd ct), sl⟩) (c : PySem.W.codeIn K cd "look_bits" = true) (k : PySem.W.keepIn K (.ref f) = true) : Has K mg "look_bits" (topS 35) ["office", "state", "person"] :=
  has_of X G a l c k (fun _ _ _ _ _ _ us hl => match us, hl with | [_, _, _], _ => rfl)
theorem mk36 {f : Addr} {od an : Option Addr} {sl : Array (Option Value)} {oc kV dc pm cd ct : Value} (X : K.In h) (G : h.Ns mainGlobals mg) (a : PySem.W.nsIn K mainGlobals "is_state" = some (some (.ref f)))
    (l : K.lookup f = some ⟨oc, od, .func (PySem.W.fnOf "is_state" "is_state" (fnArgs (topS 36)) (fnBody (topS 36)) (fnScope (topS 36)) .none kV dc pm an cd ct), sl⟩) (c : PySem.W.codeIn K cd "is_state" = true) (k : PySem.W.keepIn K (.ref f) = true) : Has K mg "is_state" (topS 36) ["people", "crowd", "thing"] :=
  has_of X G a l c k (fun _ _ _ _ _ _ us hl => match us, hl with | [_, _, _], _ => rfl)
theorem mk37 {f : Addr} {od an : Option Addr} {sl : Array (Option Value)} {oc kV dc pm cd ct : Value} (X : K.In h) (G : h.Ns mainGlobals mg) (a : PySem.W.nsIn K mainGlobals "check_state" = some (some (.ref f)))
    (l : K.lookup f = some ⟨oc, od, .func (PySem.W.fnOf "check_state" "check_state" (fnArgs (topS 37)) (fnBody (topS 37)) (fnScope (topS 37)) .none kV dc pm an cd ct), sl⟩) (c : PySem.W.codeIn K cd "check_state" = true) (k : PySem.W.keepIn K (.ref f) = true) : Has K mg "check_state" (topS 37) ["office", "crowd", "state"] :=
  has_of X G a l c k (fun _ _ _ _ _ _ us hl => match us, hl with | [_, _, _], _ => rfl)
theorem mk38 {f : Addr} {od an : Option Addr} {sl : Array (Option Value)} {oc kV dc pm cd ct : Value} (X : K.In h) (G : h.Ns mainGlobals mg) (a : PySem.W.nsIn K mainGlobals "looked" = some (some (.ref f)))
    (l : K.lookup f = some ⟨oc, od, .func (PySem.W.fnOf "looked" "looked" (fnArgs (topS 38)) (fnBody (topS 38)) (fnScope (topS 38)) .none kV dc pm an cd ct), sl⟩) (c : PySem.W.codeIn K cd "looked" = true) (k : PySem.W.keepIn K (.ref f) = true) : Has K mg "looked" (topS 38) ["office", "crowd", "state", "person"] :=
  has_of X G a l c k (fun _ _ _ _ _ _ us hl => match us, hl with | [_, _, _, _], _ => rfl)
theorem mk39 {f : Addr} {od an : Option Addr} {sl : Array (Option Value)} {oc kV dc pm cd ct : Value} (X : K.In h) (G : h.Ns mainGlobals mg) (a : PySem.W.nsIn K mainGlobals "looked_through" = some (some (.ref f)))
    (l : K.lookup f = some ⟨oc, od, .func (PySem.W.fnOf "looked_through" "looked_through" (fnArgs (topS 39)) (fnBody (topS 39)) (fnScope (topS 39)) .none kV dc pm an cd ct), sl⟩) (c : PySem.W.codeIn K cd "looked_through" = true) (k : PySem.W.keepIn K (.ref f) = true) : Has K mg "looked_through" (topS 39) ["office", "crowd", "state", "row"] :=
  has_of X G a l c k (fun _ _ _ _ _ _ us hl => match us, hl with | [_, _, _, _], _ => rfl)
theorem mk40 {f : Addr} {od an : Option Addr} {sl : Array (Option Value)} {oc kV dc pm cd ct : Value} (X : K.In h) (G : h.Ns mainGlobals mg) (a : PySem.W.nsIn K mainGlobals "is_quiet" = some (some (.ref f)))
    (l : K.lookup f = some ⟨oc, od, .func (PySem.W.fnOf "is_quiet" "is_quiet" (fnArgs (topS 40)) (fnBody (topS 40)) (fnScope (topS 40)) .none kV dc pm an cd ct), sl⟩) (c : PySem.W.codeIn K cd "is_quiet" = true) (k : PySem.W.keepIn K (.ref f) = true) : Has K mg "is_quiet" (topS 40) ["office", "crowd", "thing"] :=
  has_of X G a l c k (fun _ _ _ _ _ _ us hl => match us, hl with | [_, _, _], _ => rfl)
theorem mk42 {f : Addr} {od an : Option Addr} {sl : Array (Option Value)} {oc kV dc pm cd ct : Value} (X : K.In h) (G : h.Ns mainGlobals mg) (a : PySem.W.nsIn K mainGlobals "_law_hand" = some (some (.ref f)))
    (l : K.lookup f = some ⟨oc, od, .func (PySem.W.fnOf "_law_hand" "_law_hand" (fnArgs (topS 42)) (fnBody (topS 42)) (fnScope (topS 42)) .none kV dc pm an cd ct), sl⟩) (c : PySem.W.codeIn K cd "_law_hand" = true) (k : PySem.W.keepIn K (.ref f) = true) : Has K mg "_law_hand" (topS 42) ["_law_script"] :=
  has_of X G a l c k (fun _ _ _ _ _ _ us hl => match us, hl with | [_], _ => rfl)
theorem mk43 {f : Addr} {od an : Option Addr} {sl : Array (Option Value)} {oc kV dc pm cd ct : Value} (X : K.In h) (G : h.Ns mainGlobals mg) (a : PySem.W.nsIn K mainGlobals "_law_draw" = some (some (.ref f)))
    (l : K.lookup f = some ⟨oc, od, .func (PySem.W.fnOf "_law_draw" "_law_draw" (fnArgs (topS 43)) (fnBody (topS 43)) (fnScope (topS 43)) .none kV dc pm an cd ct), sl⟩) (c : PySem.W.codeIn K cd "_law_draw" = true) (k : PySem.W.keepIn K (.ref f) = true) : Has K mg "_law_draw" (topS 43) ["_law_hand_here", "_law_many"] :=
  has_of X G a l c k (fun _ _ _ _ _ _ us hl => match us, hl with | [_, _], _ => rfl)
theorem mk44 {f : Addr} {od an : Option Addr} {sl : Array (Option Value)} {oc kV dc pm cd ct : Value} (X : K.In h) (G : h.Ns mainGlobals mg) (a : PySem.W.nsIn K mainGlobals "_law_flag" = some (some (.ref f)))
    (l : K.lookup f = some ⟨oc, od, .func (PySem.W.fnOf "_law_flag" "_law_flag" (fnArgs (topS 44)) (fnBody (topS 44)) (fnScope (topS 44)) .none kV dc pm an cd ct), sl⟩) (c : PySem.W.codeIn K cd "_law_flag" = true) (k : PySem.W.keepIn K (.ref f) = true) : Has K mg "_law_flag" (topS 44) ["_law_told", "_law_due"] :=
  has_of X G a l c k (fun _ _ _ _ _ _ us hl => match us, hl with | [_, _], _ => rfl)
theorem mk45 {f : Addr} {od an : Option Addr} {sl : Array (Option Value)} {oc kV dc pm cd ct : Value} (X : K.In h) (G : h.Ns mainGlobals mg) (a : PySem.W.nsIn K mainGlobals "_law_is" = some (some (.ref f)))
    (l : K.lookup f = some ⟨oc, od, .func (PySem.W.fnOf "_law_is" "_law_is" (fnArgs (topS 45)) (fnBody (topS 45)) (fnScope (topS 45)) .none kV dc pm an cd ct), sl⟩) (c : PySem.W.codeIn K cd "_law_is" = true) (k : PySem.W.keepIn K (.ref f) = true) : Has K mg "_law_is" (topS 45) ["_law_told", "_law_due"] :=
  has_of X G a l c k (fun _ _ _ _ _ _ us hl => match us, hl with | [_, _], _ => rfl)
theorem mk46 {f : Addr} {od an : Option Addr} {sl : Array (Option Value)} {oc kV dc pm cd ct : Value} (X : K.In h) (G : h.Ns mainGlobals mg) (a : PySem.W.nsIn K mainGlobals "_law_order" = some (some (.ref f)))
    (l : K.lookup f = some ⟨oc, od, .func (PySem.W.fnOf "_law_order" "_law_order" (fnArgs (topS 46)) (fnBody (topS 46)) (fnScope (topS 46)) .none kV dc pm an cd ct), sl⟩) (c : PySem.W.codeIn K cd "_law_order" = true) (k : PySem.W.keepIn K (.ref f) = true) : Has K mg "_law_order" (topS 46) ["_law_hand_here", "_law_people_here"] :=
  has_of X G a l c k (fun _ _ _ _ _ _ us hl => match us, hl with | [_, _], _ => rfl)
theorem mk47 {f : Addr} {od an : Option Addr} {sl : Array (Option Value)} {oc kV dc pm cd ct : Value} (X : K.In h) (G : h.Ns mainGlobals mg) (a : PySem.W.nsIn K mainGlobals "_law_least_lots" = some (some (.ref f)))
    (l : K.lookup f = some ⟨oc, od, .func (PySem.W.fnOf "_law_least_lots" "_law_least_lots" (fnArgs (topS 47)) (fnBody (topS 47)) (fnScope (topS 47)) .none kV dc pm an cd ct), sl⟩) (c : PySem.W.codeIn K cd "_law_least_lots" = true) (k : PySem.W.keepIn K (.ref f) = true) : Has K mg "_law_least_lots" (topS 47) ["_law_heaps"] :=
  has_of X G a l c k (fun _ _ _ _ _ _ us hl => match us, hl with | [_], _ => rfl)
theorem mk48 {f : Addr} {od an : Option Addr} {sl : Array (Option Value)} {oc kV dc pm cd ct : Value} (X : K.In h) (G : h.Ns mainGlobals mg) (a : PySem.W.nsIn K mainGlobals "_law_some_lots" = some (some (.ref f)))
    (l : K.lookup f = some ⟨oc, od, .func (PySem.W.fnOf "_law_some_lots" "_law_some_lots" (fnArgs (topS 48)) (fnBody (topS 48)) (fnScope (topS 48)) .none kV dc pm an cd ct), sl⟩) (c : PySem.W.codeIn K cd "_law_some_lots" = true) (k : PySem.W.keepIn K (.ref f) = true) : Has K mg "_law_some_lots" (topS 48) ["_law_hand_here", "_law_people_here", "_law_limit"] :=
  has_of X G a l c k (fun _ _ _ _ _ _ us hl => match us, hl with | [_, _, _], _ => rfl)
theorem mk49 {f : Addr} {od an : Option Addr} {sl : Array (Option Value)} {oc kV dc pm cd ct : Value} (X : K.In h) (G : h.Ns mainGlobals mg) (a : PySem.W.nsIn K mainGlobals "_law_parts_of" = some (some (.ref f)))
    (l : K.lookup f = some ⟨oc, od, .func (PySem.W.fnOf "_law_parts_of" "_law_parts_of" (fnArgs (topS 49)) (fnBody (topS 49)) (fnScope (topS 49)) .none kV dc pm an cd ct), sl⟩) (c : PySem.W.codeIn K cd "_law_parts_of" = true) (k : PySem.W.keepIn K (.ref f) = true) : Has K mg "_law_parts_of" (topS 49) ["_law_row", "_law_size"] :=
  has_of X G a l c k (fun _ _ _ _ _ _ us hl => match us, hl with | [_, _], _ => rfl)
theorem mk50 {f : Addr} {od an : Option Addr} {sl : Array (Option Value)} {oc kV dc pm cd ct : Value} (X : K.In h) (G : h.Ns mainGlobals mg) (a : PySem.W.nsIn K mainGlobals "_law_even_lots" = some (some (.ref f)))
    (l : K.lookup f = some ⟨oc, od, .func (PySem.W.fnOf "_law_even_lots" "_law_even_lots" (fnArgs (topS 50)) (fnBody (topS 50)) (fnScope (topS 50)) .none kV dc pm an cd ct), sl⟩) (c : PySem.W.codeIn K cd "_law_even_lots" = true) (k : PySem.W.keepIn K (.ref f) = true) : Has K mg "_law_even_lots" (topS 50) ["_law_hand_here", "_law_people_here"] :=
  has_of X G a l c k (fun _ _ _ _ _ _ us hl => match us, hl with | [_, _], _ => rfl)
theorem mk51 {f : Addr} {od an : Option Addr} {sl : Array (Option Value)} {oc kV dc pm cd ct : Value} (X : K.In h) (G : h.Ns mainGlobals mg) (a : PySem.W.nsIn K mainGlobals "_law_threes" = some (some (.ref f)))
    (l : K.lookup f = some ⟨oc, od, .func (PySem.W.fnOf "_law_threes" "_law_threes" (fnArgs (topS 51)) (fnBody (topS 51)) (fnScope (topS 51)) .none kV dc pm an cd ct), sl⟩) (c : PySem.W.codeIn K cd "_law_threes" = true) (k : PySem.W.keepIn K (.ref f) = true) : Has K mg "_law_threes" (topS 51) ["_law_hand_here", "_law_people_here"] :=
  has_of X G a l c k (fun _ _ _ _ _ _ us hl => match us, hl with | [_, _], _ => rfl)
theorem mk52 {f : Addr} {od an : Option Addr} {sl : Array (Option Value)} {oc kV dc pm cd ct : Value} (X : K.In h) (G : h.Ns mainGlobals mg) (a : PySem.W.nsIn K mainGlobals "_law_lots" = some (some (.ref f)))
    (l : K.lookup f = some ⟨oc, od, .func (PySem.W.fnOf "_law_lots" "_law_lots" (fnArgs (topS 52)) (fnBody (topS 52)) (fnScope (topS 52)) .none kV dc pm an cd ct), sl⟩) (c : PySem.W.codeIn K cd "_law_lots" = true) (k : PySem.W.keepIn K (.ref f) = true) : Has K mg "_law_lots" (topS 52) ["_law_hand_here", "_law_people_here"] :=
  has_of X G a l c k (fun _ _ _ _ _ _ us hl => match us, hl with | [_, _], _ => rfl)
theorem mk53 {f : Addr} {od an : Option Addr} {sl : Array (Option Value)} {oc kV dc pm cd ct : Value} (X : K.In h) (G : h.Ns mainGlobals mg) (a : PySem.W.nsIn K mainGlobals "_law_people" = some (some (.ref f)))
    (l : K.lookup f = some ⟨oc, od, .func (PySem.W.fnOf "_law_people" "_law_people" (fnArgs (topS 53)) (fnBody (topS 53)) (fnScope (topS 53)) .none kV dc pm an cd ct), sl⟩) (c : PySem.W.codeIn K cd "_law_people" = true) (k : PySem.W.keepIn K (.ref f) = true) : Has K mg "_law_people" (topS 53) ["_law_hand_here", "_law_limit"] :=
  has_of X G a l c k (fun _ _ _ _ _ _ us hl => match us, hl with | [_, _], _ => rfl)
theorem mk54 {f : Addr} {od an : Option Addr} {sl : Array (Option Value)} {oc kV dc pm cd ct : Value} (X : K.In h) (G : h.Ns mainGlobals mg) (a : PySem.W.nsIn K mainGlobals "_law_bits" = some (some (.ref f)))
    (l : K.lookup f = some ⟨oc, od, .func (PySem.W.fnOf "_law_bits" "_law_bits" (fnArgs (topS 54)) (fnBody (topS 54)) (fnScope (topS 54)) .none kV dc pm an cd ct), sl⟩) (c : PySem.W.codeIn K cd "_law_bits" = true) (k : PySem.W.keepIn K (.ref f) = true) : Has K mg "_law_bits" (topS 54) ["_law_crowd_here"] :=
  has_of X G a l c k (fun _ _ _ _ _ _ us hl => match us, hl with | [_], _ => rfl)
theorem mk55 {f : Addr} {od an : Option Addr} {sl : Array (Option Value)} {oc kV dc pm cd ct : Value} (X : K.In h) (G : h.Ns mainGlobals mg) (a : PySem.W.nsIn K mainGlobals "_law_crowd" = some (some (.ref f)))
    (l : K.lookup f = some ⟨oc, od, .func (PySem.W.fnOf "_law_crowd" "_law_crowd" (fnArgs (topS 55)) (fnBody (topS 55)) (fnScope (topS 55)) .none kV dc pm an cd ct), sl⟩) (c : PySem.W.codeIn K cd "_law_crowd" = true) (k : PySem.W.keepIn K (.ref f) = true) : Has K mg "_law_crowd" (topS 55) ["_law_bits_here"] :=
  has_of X G a l c k (fun _ _ _ _ _ _ us hl => match us, hl with | [_], _ => rfl)
theorem mk56 {f : Addr} {od an : Option Addr} {sl : Array (Option Value)} {oc kV dc pm cd ct : Value} (X : K.In h) (G : h.Ns mainGlobals mg) (a : PySem.W.nsIn K mainGlobals "_law_let" = some (some (.ref f)))
    (l : K.lookup f = some ⟨oc, od, .func (PySem.W.fnOf "_law_let" "_law_let" (fnArgs (topS 56)) (fnBody (topS 56)) (fnScope (topS 56)) .none kV dc pm an cd ct), sl⟩) (c : PySem.W.codeIn K cd "_law_let" = true) (k : PySem.W.keepIn K (.ref f) = true) : Has K mg "_law_let" (topS 56) ["_law_masks_here", "_law_order_here", "_law_bits_here"] :=
  has_of X G a l c k (fun _ _ _ _ _ _ us hl => match us, hl with | [_, _, _], _ => rfl)
theorem mk57 {f : Addr} {od an : Option Addr} {sl : Array (Option Value)} {oc kV dc pm cd ct : Value} (X : K.In h) (G : h.Ns mainGlobals mg) (a : PySem.W.nsIn K mainGlobals "_law_masks" = some (some (.ref f)))
    (l : K.lookup f = some ⟨oc, od, .func (PySem.W.fnOf "_law_masks" "_law_masks" (fnArgs (topS 57)) (fnBody (topS 57)) (fnScope (topS 57)) .none kV dc pm an cd ct), sl⟩) (c : PySem.W.codeIn K cd "_law_masks" = true) (k : PySem.W.keepIn K (.ref f) = true) : Has K mg "_law_masks" (topS 57) ["_law_lots_here"] :=
  has_of X G a l c k (fun _ _ _ _ _ _ us hl => match us, hl with | [_], _ => rfl)
theorem mk59 {f : Addr} {od an : Option Addr} {sl : Array (Option Value)} {oc kV dc pm cd ct : Value} (X : K.In h) (G : h.Ns mainGlobals mg) (a : PySem.W.nsIn K mainGlobals "_law_deep" = some (some (.ref f)))
    (l : K.lookup f = some ⟨oc, od, .func (PySem.W.fnOf "_law_deep" "_law_deep" (fnArgs (topS 59)) (fnBody (topS 59)) (fnScope (topS 59)) .none kV dc pm an cd ct), sl⟩) (c : PySem.W.codeIn K cd "_law_deep" = true) (k : PySem.W.keepIn K (.ref f) = true) : Has K mg "_law_deep" (topS 59) ["_law_hand_here"] :=
  has_of X G a l c k (fun _ _ _ _ _ _ us hl => match us, hl with | [_], _ => rfl)
theorem mk60 {f : Addr} {od an : Option Addr} {sl : Array (Option Value)} {oc kV dc pm cd ct : Value} (X : K.In h) (G : h.Ns mainGlobals mg) (a : PySem.W.nsIn K mainGlobals "_law_is_integer" = some (some (.ref f)))
    (l : K.lookup f = some ⟨oc, od, .func (PySem.W.fnOf "_law_is_integer" "_law_is_integer" (fnArgs (topS 60)) (fnBody (topS 60)) (fnScope (topS 60)) .none kV dc pm an cd ct), sl⟩) (c : PySem.W.codeIn K cd "_law_is_integer" = true) (k : PySem.W.keepIn K (.ref f) = true) : Has K mg "_law_is_integer" (topS 60) ["_law_thing"] :=
  has_of X G a l c k (fun _ _ _ _ _ _ us hl => match us, hl with | [_], _ => rfl)
theorem mk61 {f : Addr} {od an : Option Addr} {sl : Array (Option Value)} {oc kV dc pm cd ct : Value} (X : K.In h) (G : h.Ns mainGlobals mg) (a : PySem.W.nsIn K mainGlobals "_law_is_crowd" = some (some (.ref f)))
    (l : K.lookup f = some ⟨oc, od, .func (PySem.W.fnOf "_law_is_crowd" "_law_is_crowd" (fnArgs (topS 61)) (fnBody (topS 61)) (fnScope (topS 61)) .none kV dc pm an cd ct), sl⟩) (c : PySem.W.codeIn K cd "_law_is_crowd" = true) (k : PySem.W.keepIn K (.ref f) = true) : Has K mg "_law_is_crowd" (topS 61) ["_law_people_here", "_law_thing"] :=
  has_of X G a l c k (fun _ _ _ _ _ _ us hl => match us, hl with | [_, _], _ => rfl)
theorem mk62 {f : Addr} {od an : Option Addr} {sl : Array (Option Value)} {oc kV dc pm cd ct : Value} (X : K.In h) (G : h.Ns mainGlobals mg) (a : PySem.W.nsIn K mainGlobals "_law_odd" = some (some (.ref f)))
    (l : K.lookup f = some ⟨oc, od, .func (PySem.W.fnOf "_law_odd" "_law_odd" (fnArgs (topS 62)) (fnBody (topS 62)) (fnScope (topS 62)) .none kV dc pm an cd ct), sl⟩) (c : PySem.W.codeIn K cd "_law_odd" = true) (k : PySem.W.keepIn K (.ref f) = true) : Has K mg "_law_odd" (topS 62) ["_law_hand_here", "_law_people_here"] :=
  has_of X G a l c k (fun _ _ _ _ _ _ us hl => match us, hl with | [_, _], _ => rfl)
theorem mk63 {f : Addr} {od an : Option Addr} {sl : Array (Option Value)} {oc kV dc pm cd ct : Value} (X : K.In h) (G : h.Ns mainGlobals mg) (a : PySem.W.nsIn K mainGlobals "_law_crowd_bent" = some (some (.ref f)))
    (l : K.lookup f = some ⟨oc, od, .func (PySem.W.fnOf "_law_crowd_bent" "_law_crowd_bent" (fnArgs (topS 63)) (fnBody (topS 63)) (fnScope (topS 63)) .none kV dc pm an cd ct), sl⟩) (c : PySem.W.codeIn K cd "_law_crowd_bent" = true) (k : PySem.W.keepIn K (.ref f) = true) : Has K mg "_law_crowd_bent" (topS 63) ["_law_hand_here", "_law_people_here", "_law_crowd_here"] :=
  has_of X G a l c k (fun _ _ _ _ _ _ us hl => match us, hl with | [_, _, _], _ => rfl)
theorem mkKeep {C f : Addr} {od an : Option Addr} {sl : Array (Option Value)} {oc kV dc pm cd ct : Value} (a : PySem.W.findIn K (.ref C) "keep" = some (some (.ref f))) (i : PySem.W.isFn K (.ref f) = true)
    (l : K.lookup f = some ⟨oc, od, .func (PySem.W.fnOf "keep" "Book.keep" (fnArgs (inClass (topS 26) 1)) (fnBody (inClass (topS 26) 1)) (fnScope (inClass (topS 26) 1)) .none kV dc pm an cd ct), sl⟩) (c : PySem.W.codeIn K cd "Book.keep" = true) (k : PySem.W.keepIn K (.ref f) = true) :
    HasM K C "keep" "Book.keep" (inClass (topS 26) 1) ["self", "people", "lots"] := hasM_of a i l c k (fun _ _ _ _ _ _ us hl => match us, hl with | [_, _, _], _ => rfl)
theorem mkBook {C f : Addr} {od an : Option Addr} {sl : Array (Option Value)} {oc kV dc pm cd ct : Value} (X : K.In h) (G : h.Ns mainGlobals mg) (hm : PySem.W.nsIn K mainGlobals "Book" = some (some (.ref C))) (mk : PySem.W.makesIn K C = true) (a : PySem.W.findIn K (.ref C) "__init__" = some (some (.ref f))) (i : PySem.W.isFn K (.ref f) = true)
    (l : K.lookup f = some ⟨oc, od, .func (PySem.W.fnOf "__init__" "Book.__init__" (fnArgs (inClass (topS 26) 0)) (fnBody (inClass (topS 26) 0)) (fnScope (inClass (topS 26) 0)) .none kV dc pm an cd ct), sl⟩) (c : PySem.W.codeIn K cd "Book.__init__" = true) (k : PySem.W.keepIn K (.ref C) = true) :
    HasI K mg "Book" C "Book.__init__" (inClass (topS 26) 0) ["self", "people", "lots"] := hasI_of (PySem.W.mg_of X G hm) mk a i l c k (fun _ _ _ _ _ _ us hl => match us, hl with | [_, _, _], _ => rfl)
theorem mkOffice {C f : Addr} {od an : Option Addr} {sl : Array (Option Value)} {oc kV dc pm cd ct : Value} (X : K.In h) (G : h.Ns mainGlobals mg) (hm : PySem.W.nsIn K mainGlobals "Office" = some (some (.ref C))) (mk : PySem.W.makesIn K C = true) (a : PySem.W.findIn K (.ref C) "__init__" = some (some (.ref f))) (i : PySem.W.isFn K (.ref f) = true)
    (l : K.lookup f = some ⟨oc, od, .func (PySem.W.fnOf "__init__" "Office.__init__" (fnArgs (inClass (topS 29) 0)) (fnBody (inClass (topS 29) 0)) (fnScope (inClass (topS 29) 0)) .none kV dc pm an cd ct), sl⟩) (c : PySem.W.codeIn K cd "Office.__init__" = true) (k : PySem.W.keepIn K (.ref C) = true) :
    HasI K mg "Office" C "Office.__init__" (inClass (topS 29) 0) ["self", "book", "order"] := hasI_of (PySem.W.mg_of X G hm) mk a i l c k (fun _ _ _ _ _ _ us hl => match us, hl with | [_, _, _], _ => rfl)
theorem mkBi (X : K.In h) (G : h.Ns mainGlobals mg) (b_isinstance : PySem.W.nsIn K mainGlobals "isinstance" = some none) (b_all : PySem.W.nsIn K mainGlobals "all" = some none) (b_any : PySem.W.nsIn K mainGlobals "any" = some none) (b_range : PySem.W.nsIn K mainGlobals "range" = some none) (b_len : PySem.W.nsIn K mainGlobals "len" = some none) (b_sum : PySem.W.nsIn K mainGlobals "sum" = some none) (b_tuple : PySem.W.nsIn K mainGlobals "tuple" = some none) (b_enumerate : PySem.W.nsIn K mainGlobals "enumerate" = some none) (b_max : PySem.W.nsIn K mainGlobals "max" = some none) (b_sorted : PySem.W.nsIn K mainGlobals "sorted" = some none) (b_set : PySem.W.nsIn K mainGlobals "set" = some none) (b_list : PySem.W.nsIn K mainGlobals "list" = some none) (b_int : PySem.W.nsIn K mainGlobals "int" = some none) (b_bool : PySem.W.nsIn K mainGlobals "bool" = some none) (b_abs : PySem.W.nsIn K mainGlobals "abs" = some none) (b_zip : PySem.W.nsIn K mainGlobals "zip" = some none) : Bi mg :=
  ⟨PySem.W.mg_none_of X G b_isinstance, PySem.W.mg_none_of X G b_all, PySem.W.mg_none_of X G b_any, PySem.W.mg_none_of X G b_range, PySem.W.mg_none_of X G b_len, PySem.W.mg_none_of X G b_sum, PySem.W.mg_none_of X G b_tuple, PySem.W.mg_none_of X G b_enumerate, PySem.W.mg_none_of X G b_max, PySem.W.mg_none_of X G b_sorted, PySem.W.mg_none_of X G b_set, PySem.W.mg_none_of X G b_list, PySem.W.mg_none_of X G b_int, PySem.W.mg_none_of X G b_bool, PySem.W.mg_none_of X G b_abs, PySem.W.mg_none_of X G b_zip⟩
theorem kit_self (C : Addr) : PySem.W.kitOne K (.ref C) (.ref C) = some true := by
  unfold PySem.W.kitOne
  exact if_pos (by first | exact beq_self_eq_true _ | simp | (show (C == C) = true; exact beq_self_eq_true C))
theorem mkClF {CB CO : Addr} {t1 t2 t3 : Tok} (X : K.In h) (G : h.Ns mainGlobals mg) (aCB : PySem.W.nsIn K mainGlobals "Book" = some (some (.ref CB)))
    (g1 : PySem.W.plainGet K CB Str.empty = true) (g2 : PySem.W.hasDictIn K CB = true) (g3 : PySem.W.plainOver K CB = true) (g4 : PySem.W.findIn K (.ref CB) "__setattr__" = some (some (.builtin "object.__setattr__")))
    (n1 : PySem.W.findIn K (.ref CB) "people" = some none) (n2 : PySem.W.findIn K (.ref CB) "lots" = some none) (n3 : PySem.W.findIn K (.ref CB) "masks" = some none)
    (e1 : PySem.W.plainGet K CO Str.empty = true) (e2 : PySem.W.hasDictIn K CO = true) (e3 : PySem.W.plainOver K CO = true) (e4 : PySem.W.findIn K (.ref CO) "__setattr__" = some (some (.builtin "object.__setattr__")))
    (m1 : PySem.W.findIn K (.ref CO) "book" = some none) (m2 : PySem.W.findIn K (.ref CO) "order" = some none) (m3 : PySem.W.findIn K (.ref CO) "kept_lasts" = some none) (m4 : PySem.W.findIn K (.ref CO) "bars" = some none)
    (i1 : PySem.W.findIn K (.ref CB) "__class__" = some (some (.builtin "object.__class__"))) (i2 : PySem.W.specialIn K (.builtin "object.__class__") "__get__" = some (some (.builtin "getset_descriptor.__get__"))) (i3 : PySem.W.takesIn K (.builtin "object.__class__") = some true)
    (i4 : PySem.W.mroIn K CB (.type "object") = some true)
    (c1 : PySem.W.nsIn K mainGlobals "MOST_PEOPLE" = some (some (.int 12 t1))) (c2 : PySem.W.nsIn K mainGlobals "MOST_LOTS" = some (some (.int 60 t2))) (c3 : PySem.W.nsIn K mainGlobals "MOST_LOOKS" = some (some (.int 200 t3))) : ClF K mg CB CO :=
  ⟨⟨g1, g2, g3, g4⟩, n1, n2, n3, ⟨e1, e2, e3, e4⟩, m1, m2, m3, m4, ⟨⟨g1, g2, g3, g4⟩, i1, i2, i3, i4, kit_self CB⟩, PySem.W.mg_of X G aCB, ⟨_, PySem.W.mg_of X G c1, ⟨_, rfl⟩⟩, ⟨_, PySem.W.mg_of X G c2, ⟨_, rfl⟩⟩, ⟨_, PySem.W.mg_of X G c3, ⟨_, rfl⟩⟩⟩
end
section
variable {K : PySem.W.Frag} {mg : Str → Option Value} {CB CO : Addr}
theorem calls (P : Program) (w : World) (base : Heap) (B : Bi mg) (T : ClF K mg CB CO) (hK : HasM K CB "keep" "Book.keep" (inClass (topS 26) 1) ["self", "people", "lots"]) (hB : HasI K mg "Book" CB "Book.__init__" (inClass (topS 26) 0) ["self", "people", "lots"])
    (hO : HasI K mg "Office" CO "Office.__init__" (inClass (topS 29) 0) ["self", "book", "order"]) (h10 : Has K mg "is_integer" (topS 10) ["thing"]) (h11 : Has K mg "is_within" (topS 11) ["thing", "least", "most"]) (h12 : Has K mg "are_ascending" (topS 12) ["things"]) (h13 : Has K mg "are_persons" (topS 13) ["people", "thing"]) (h14 : Has K mg "is_crowd" (topS 14) ["people", "thing"]) (h15 : Has K mg "is_lot" (topS 15) ["people", "thing"]) (h16 : Has K mg "is_row" (topS 16) ["people", "thing"]) (h17 : Has K mg "is_order" (topS 17) ["people", "thing"]) (h18 : Has K mg "check_crowd" (topS 18) ["people", "thing"]) (h19 : Has K mg "check_member" (topS 19) ["crowd", "thing"]) (h20 : Has K mg "bits_of" (topS 20) ["crowd"]) (h21 : Has K mg "crowd_of" (topS 21) ["bits"]) (h22 : Has K mg "holds" (topS 22) ["bits", "some"]) (h25 : Has K mg "first_wrong_lot" (topS 25) ["people", "lots"]) (h28 : Has K mg "lasts_in" (topS 28) ["book", "order"]) (h30 : Has K mg "is_barred" (topS 30) ["office", "inside", "person"]) (h31 : Has K mg "in_bits" (topS 31) ["office", "bits"]) (h32 : Has K mg "let_in" (topS 32) ["office", "crowd"]) (h35 : Has K mg "look_bits" (topS 35) ["office", "state", "person"]) (h36 : Has K mg "is_state" (topS 36) ["people", "crowd", "thing"]) (h37 : Has K mg "check_state" (topS 37) ["office", "crowd", "state"]) (h38 : Has K mg "looked" (topS 38) ["office", "crowd", "state", "person"]) (h39 : Has K mg "looked_through" (topS 39) ["office", "crowd", "state", "row"]) (h40 : Has K mg "is_quiet" (topS 40) ["office", "crowd", "thing"]) (h42 : Has K mg "_law_hand" (topS 42) ["_law_script"]) (h43 : Has K mg "_law_draw" (topS 43) ["_law_hand_here", "_law_many"]) (h44 : Has K mg "_law_flag" (topS 44) ["_law_told", "_law_due"]) (h45 : Has K mg "_law_is" (topS 45) ["_law_told", "_law_due"]) (h46 : Has K mg "_law_order" (topS 46) ["_law_hand_here", "_law_people_here"]) (h47 : Has K mg "_law_least_lots" (topS 47) ["_law_heaps"]) (h48 : Has K mg "_law_some_lots" (topS 48) ["_law_hand_here", "_law_people_here", "_law_limit"]) (h49 : Has K mg "_law_parts_of" (topS 49) ["_law_row", "_law_size"]) (h50 : Has K mg "_law_even_lots" (topS 50) ["_law_hand_here", "_law_people_here"]) (h51 : Has K mg "_law_threes" (topS 51) ["_law_hand_here", "_law_people_here"]) (h52 : Has K mg "_law_lots" (topS 52) ["_law_hand_here", "_law_people_here"]) (h53 : Has K mg "_law_people" (topS 53) ["_law_hand_here", "_law_limit"]) (h54 : Has K mg "_law_bits" (topS 54) ["_law_crowd_here"]) (h55 : Has K mg "_law_crowd" (topS 55) ["_law_bits_here"]) (h56 : Has K mg "_law_let" (topS 56) ["_law_masks_here", "_law_order_here", "_law_bits_here"]) (h57 : Has K mg "_law_masks" (topS 57) ["_law_lots_here"]) (h59 : Has K mg "_law_deep" (topS 59) ["_law_hand_here"]) (h60 : Has K mg "_law_is_integer" (topS 60) ["_law_thing"]) (h61 : Has K mg "_law_is_crowd" (topS 61) ["_law_people_here", "_law_thing"]) (h62 : Has K mg "_law_odd" (topS 62) ["_law_hand_here", "_law_people_here"]) (h63 : Has K mg "_law_crowd_bent" (topS 63) ["_law_hand_here", "_law_people_here", "_law_crowd_here"]) : Calls P w K mg base CB CO := by
  have c10 : Cal P w K mg base 1 "is_integer" spIsInteger [] := ok_is_integer B h10
  have c11 : Cal P w K mg base 2 "is_within" spIsWithin [] := ok_is_within B h11 c10
  have c12 : Cal P w K mg base 1 "are_ascending" spAsc [] := ok_asc B h12
  have c13 : Cal P w K mg base 3 "are_persons" (spOfThing Ps) [] := ok_are_persons B h13 c11
  have c14 : Cal P w K mg base 4 "is_crowd" (spOfThing Cw) [] := ok_is_crowd h14 c13 c12
  have c15 : Cal P w K mg base 5 "is_lot" spLot [] := ok_is_lot B h15 c14
  have c16 : Cal P w K mg base 4 "is_row" spOrder [] := ok_is_row B h16 c13
  have c17 : Cal P w K mg base 5 "is_order" spOrder [] := ok_is_order B h17 c16
  have c18 : Cal P w K mg base 5 "check_crowd" spCheck [] := ok_check_crowd h18 c14
  have c19 : Cal P w K mg base 2 "check_member" spMember [] := ok_check_member h19 c10
  have c20 : Cal P w K mg base 1 "bits_of" spBitsOf [] := ok_bits_of B h20
  have c21 : Cal P w K mg base 1 "crowd_of" spCrowdOf [] := ok_crowd_of B h21
  have c22 : Cal P w K mg base 1 "holds" spHolds [] := ok_holds h22
  have c25 : Cal P w K mg base 6 "first_wrong_lot" spFirst [] := ok_first B h25 c15 c20 c22
  have cK : Met P w K mg base 2 CB "keep" (spKeep CB) [] := ok_keep T hK c20
  have cB : Mak P w K mg base 7 "Book" CB (spBook CB) [] := ok_book B T hB c11 c25 cK
  have c28 : Cal P w K mg base 1 "lasts_in" (spLastsIn CB) [] := ok_lasts_in B T h28
  have cO : Mak P w K mg base 6 "Office" CO (spOffice CB CO) [] := ok_office B T hO c17 c28
  have c30 : Cal P w K mg base 2 "is_barred" (spBarred CB CO) [] := ok_is_barred B T h30 c22
  have c31 : Cal P w K mg base 3 "in_bits" (spInBits CB CO) [] := ok_in_bits T h31 c30
  have c32 : Cal P w K mg base 6 "let_in" (spLetIn CB CO) [] := ok_let_in T h32 c18 c20 c31 c21
  have c35 : Cal P w K mg base 3 "look_bits" (spLookBits CB CO) [] := ok_look_bits T h35 c30
  have c36 : Cal P w K mg base 5 "is_state" spIsState [] := ok_is_state h36 c14 c20 c22
  have c37 : Cal P w K mg base 6 "check_state" (spCheckState CB CO) [] := ok_check_state T h37 c18 c36
  have c38 : Cal P w K mg base 7 "looked" (spLooked CB CO) [] := ok_looked T h38 c37 c19 c20 c35 c21
  have c39 : Cal P w K mg base 7 "looked_through" (spThrough CB CO) [] := ok_through B T h39 c37 c13 c20 c35 c21
  have c40 : Cal P w K mg base 6 "is_quiet" (spQuiet CB CO) [] := ok_quiet B T h40 c18 c36 c20 c35
  have c43 : Cal P w K mg base 1 "_law_draw" spDraw [] := ok_draw B h43
  have c45 : Cal P w K mg base 1 "_law_is" spIsI [] := ok_isI B h45
  have c47 : Cal P w K mg base 1 "_law_least_lots" spLeast [] := ok_least B h47
  have c48 : Cal P w K mg base 2 "_law_some_lots" spSome [] := ok_some B h48 c43 c47
  have c49 : Cal P w K mg base 1 "_law_parts_of" spParts [] := ok_parts B h49
  have c50 : Cal P w K mg base 2 "_law_even_lots" (spDrawn fun _ => True) [] := ok_even B h50 c43 c49 c47
  have c51 : Cal P w K mg base 2 "_law_threes" (spDrawn (· = 6)) [] := ok_threes B h51 c43 c49
  have c54 : Cal P w K mg base 1 "_law_bits" spLBits [] := ok_lbits h54
  have c59 : Cal P w K mg base 2 "_law_deep" spDeep [] := ok_deep B h59 c43
  have c60 : Cal P w K mg base 1 "_law_is_integer" spIsInteger [] := ok_lis_integer B h60
  have c62 : Cal P w K mg base 2 "_law_odd" spOdd [] := ok_odd h62 c43
  exact ⟨ok_hand B h42, ok_lpeople h53 c43, ok_llots h52 c43 c51 c50 c48, ok_lorder B h46 c43, cB, cO, ok_masks h57 c54, c43, ok_lcrowd B h55, ok_let B h56, c32, ok_flag B h44, c40, ok_isT B h45 c45, c39, c38, ok_bent B h63 c43 c62 c59, ok_lis_crowd B h61 c60, c54⟩
end
theorem fin {l : PySem.W.OpenLaw} {w : World} {K : PySem.W.Frag} {h : Heap} {mg : Str → Option Value} {fa f CB CO : Addr} {od an : Option Addr} {sl : Array (Option Value)} {oc kV dc pm cd ct : Value} (X : K.In h) (G : h.Ns mainGlobals mg) (hfa : mg "law" = some (.ref fa))
    (aCB : PySem.W.nsIn K mainGlobals "Book" = some (some (.ref CB))) (aCO : PySem.W.nsIn K mainGlobals "Office" = some (some (.ref CO)))
    (a : PySem.W.nsIn K mainGlobals "law" = some (some (.ref f))) (lk : K.lookup f = some ⟨oc, od, .func (PySem.W.fnOf "law" "law" (fnArgs (topS 64)) (fnBody (topS 64)) (fnScope (topS 64)) .none kV dc pm an cd ct), sl⟩) (c : PySem.W.codeIn K cd "law" = true)
    (B : Bi mg) (T : ClF K mg CB CO) (hK : HasM K CB "keep" "Book.keep" (inClass (topS 26) 1) ["self", "people", "lots"]) (hB : HasI K mg "Book" CB "Book.__init__" (inClass (topS 26) 0) ["self", "people", "lots"]) (hO : HasI K mg "Office" CO "Office.__init__" (inClass (topS 29) 0) ["self", "book", "order"])
    (h10 : Has K mg "is_integer" (topS 10) ["thing"]) (h11 : Has K mg "is_within" (topS 11) ["thing", "least", "most"]) (h12 : Has K mg "are_ascending" (topS 12) ["things"]) (h13 : Has K mg "are_persons" (topS 13) ["people", "thing"]) (h14 : Has K mg "is_crowd" (topS 14) ["people", "thing"]) (h15 : Has K mg "is_lot" (topS 15) ["people", "thing"]) (h16 : Has K mg "is_row" (topS 16) ["people", "thing"]) (h17 : Has K mg "is_order" (topS 17) ["people", "thing"]) (h18 : Has K mg "check_crowd" (topS 18) ["people", "thing"]) (h19 : Has K mg "check_member" (topS 19) ["crowd", "thing"]) (h20 : Has K mg "bits_of" (topS 20) ["crowd"]) (h21 : Has K mg "crowd_of" (topS 21) ["bits"]) (h22 : Has K mg "holds" (topS 22) ["bits", "some"]) (h25 : Has K mg "first_wrong_lot" (topS 25) ["people", "lots"]) (h28 : Has K mg "lasts_in" (topS 28) ["book", "order"]) (h30 : Has K mg "is_barred" (topS 30) ["office", "inside", "person"]) (h31 : Has K mg "in_bits" (topS 31) ["office", "bits"]) (h32 : Has K mg "let_in" (topS 32) ["office", "crowd"]) (h35 : Has K mg "look_bits" (topS 35) ["office", "state", "person"]) (h36 : Has K mg "is_state" (topS 36) ["people", "crowd", "thing"]) (h37 : Has K mg "check_state" (topS 37) ["office", "crowd", "state"]) (h38 : Has K mg "looked" (topS 38) ["office", "crowd", "state", "person"]) (h39 : Has K mg "looked_through" (topS 39) ["office", "crowd", "state", "row"]) (h40 : Has K mg "is_quiet" (topS 40) ["office", "crowd", "thing"]) (h42 : Has K mg "_law_hand" (topS 42) ["_law_script"]) (h43 : Has K mg "_law_draw" (topS 43) ["_law_hand_here", "_law_many"]) (h44 : Has K mg "_law_flag" (topS 44) ["_law_told", "_law_due"]) (h45 : Has K mg "_law_is" (topS 45) ["_law_told", "_law_due"]) (h46 : Has K mg "_law_order" (topS 46) ["_law_hand_here", "_law_people_here"]) (h47 : Has K mg "_law_least_lots" (topS 47) ["_law_heaps"]) (h48 : Has K mg "_law_some_lots" (topS 48) ["_law_hand_here", "_law_people_here", "_law_limit"]) (h49 : Has K mg "_law_parts_of" (topS 49) ["_law_row", "_law_size"]) (h50 : Has K mg "_law_even_lots" (topS 50) ["_law_hand_here", "_law_people_here"]) (h51 : Has K mg "_law_threes" (topS 51) ["_law_hand_here", "_law_people_here"]) (h52 : Has K mg "_law_lots" (topS 52) ["_law_hand_here", "_law_people_here"]) (h53 : Has K mg "_law_people" (topS 53) ["_law_hand_here", "_law_limit"]) (h54 : Has K mg "_law_bits" (topS 54) ["_law_crowd_here"]) (h55 : Has K mg "_law_crowd" (topS 55) ["_law_bits_here"]) (h56 : Has K mg "_law_let" (topS 56) ["_law_masks_here", "_law_order_here", "_law_bits_here"]) (h57 : Has K mg "_law_masks" (topS 57) ["_law_lots_here"]) (h59 : Has K mg "_law_deep" (topS 59) ["_law_hand_here"]) (h60 : Has K mg "_law_is_integer" (topS 60) ["_law_thing"]) (h61 : Has K mg "_law_is_crowd" (topS 61) ["_law_people_here", "_law_thing"]) (h62 : Has K mg "_law_odd" (topS 62) ["_law_hand_here", "_law_people_here"]) (h63 : Has K mg "_law_crowd_bent" (topS 63) ["_law_hand_here", "_law_people_here", "_law_crowd_here"]) :
    ∃ fd : FuncData, (∀ (s : Shared) (v : Value), BindsTo s fd ⟨[v], []⟩ [("_law_script", v)]) ∧ ∀ base : Heap, K.In base → base.Ns mainGlobals mg → FnOk l.prog w K mg base C8.CX0 9 fa fd ["_law_script"] (spLaw K) := by
  have e := hfa.symm.trans (PySem.W.mg_of X G a)
  cases e
  refine ⟨PySem.W.fnOf "law" "law" (fnArgs (topS 64)) (fnBody (topS 64)) (fnScope (topS 64)) .none kV dc pm an cd ct, fun s v => .of_eq rfl, fun base _ _ => ?_⟩
  exact ok_law B (calls l.prog w base B T hK hB hO h10 h11 h12 h13 h14 h15 h16 h17 h18 h19 h20 h21 h22 h25 h28 h30 h31 h32 h35 h36 h37 h38 h39 h40 h42 h43 h44 h45 h46 h47 h48 h49 h50 h51 h52 h53 h54 h55 h56 h57 h59 h60 h61 h62 h63) ⟨⟨oc, od, .none, kV, dc, pm, an, cd, ct, sl, rfl, lk, c⟩⟩
theorem walk {l : PySem.W.OpenLaw} {q : Program} {loose : List Str} {XP : (Str → Option Value) → Heap → Prop} {YP : World → Heap → Prop} {d : DefRec} {K : Params → PySem.W.Frag} (hn : l.most = some 63) (hdf : d.params.defaults = [])
    (hY : ∀ (w : World) (h : Heap), YP w h → (K w.params).In h)
    (F : ∀ (w : World) (mg : Str → Option Value) (fa : Addr) (h : Heap), (K w.params).In h → h.Ns mainGlobals mg → mg d.name = some (.ref fa) →
      ∃ fd : FuncData, (∀ (s : Shared) (u : Value), BindsTo s fd ⟨[u], []⟩ [("_law_script", u)]) ∧ ∀ base : Heap, (K w.params).In base → base.Ns mainGlobals mg → FnOk l.prog w (K w.params) mg base C8.CX0 9 fa fd ["_law_script"] (spLaw (K w.params))) :
    PySem.W.WalkO q loose XP YP l.row.toRowW d [] (fun f vs => PySem.call f vs) :=
  L2.walk_of (n := 63) (k := 9) (x := "_law_script") (CX := fun _ => C8.CX0) (sp := fun w => spLaw (K w.params)) hn (by decide) hdf ⟨rfl, by decide, by decide⟩ hY F (fun _ _ a ns hl _ hS => ⟨a, ns, rfl, hS, hl, fun _ => rfl⟩) fun _ _ _ _ _ z => z
end Lk
open PySem PySem.W PyProof.Rows
set_option maxRecDepth 100000 in
set_option maxHeartbeats 0 in
theorem PySem.Challenge.cw_lastoflot_k71_whole_quiet_ends_of_looks_holds : PySem.Challenge.rw_lastoflot_k71_whole_quiet_ends_of_looks.Holds := by
  w_on; o_law; k_head; (case hw => w_witness2)
  k_fill
  refine Lk.walk (l := PySem.Challenge.rw_lastoflot_k71_whole_quiet_ends_of_looks) rfl rfl (fun w h Y => PySem.W.kIn_of Y) ?F
  case F =>
    intro w mg fa h KX G hmg
    refine' Lk.fin KX G hmg ?aCB ?aCO ?a ?lk ?c ?B ?T ?hK ?hB ?hO ?h10 ?h11 ?h12 ?h13 ?h14 ?h15 ?h16 ?h17 ?h18 ?h19 ?h20 ?h21 ?h22 ?h25 ?h28 ?h30 ?h31 ?h32 ?h35 ?h36 ?h37 ?h38 ?h39 ?h40 ?h42 ?h43 ?h44 ?h45 ?h46 ?h47 ?h48 ?h49 ?h50 ?h51 ?h52 ?h53 ?h54 ?h55 ?h56 ?h57 ?h59 ?h60 ?h61 ?h62 ?h63
    (case aCB => k_is); (case aCO => k_is); (case a => k_is); (case lk => k_is); (case c => k_is)
    case B =>
      refine' Lk.mkBi KX G ?b_isinstance ?b_all ?b_any ?b_range ?b_len ?b_sum ?b_tuple ?b_enumerate ?b_max ?b_sorted ?b_set ?b_list ?b_int ?b_bool ?b_abs ?b_zip
      (case b_isinstance => k_is); (case b_all => k_is); (case b_any => k_is); (case b_range => k_is); (case b_len => k_is); (case b_sum => k_is); (case b_tuple => k_is); (case b_enumerate => k_is); (case b_max => k_is); (case b_sorted => k_is); (case b_set => k_is); (case b_list => k_is); (case b_int => k_is); (case b_bool => k_is); (case b_abs => k_is); (case b_zip => k_is)
    case T =>
      refine' Lk.mkClF KX G ?aCB ?g1 ?g2 ?g3 ?g4 ?n1 ?n2 ?n3 ?e1 ?e2 ?e3 ?e4 ?m1 ?m2 ?m3 ?m4 ?i1 ?i2 ?i3 ?i4 ?c1 ?c2 ?c3
      (case aCB => k_is); (case g1 => k_is); (case g2 => k_is); (case g3 => k_is); (case g4 => k_is); (case n1 => k_is); (case n2 => k_is); (case n3 => k_is); (case e1 => k_is); (case e2 => k_is); (case e3 => k_is); (case e4 => k_is); (case m1 => k_is); (case m2 => k_is); (case m3 => k_is); (case m4 => k_is); (case i1 => k_is); (case i2 => k_is); (case i3 => k_is); (case i4 => k_is); (case c1 => k_is); (case c2 => k_is); (case c3 => k_is)
    case hK =>
      refine' Lk.mkKeep ?a ?i ?l ?c ?k
      (case a => k_is); (case i => k_is); (case l => k_is); (case c => k_is); (case k => k_is)
    case hB =>
      refine' Lk.mkBook KX G ?hm ?mk ?a ?i ?l ?c ?k
      (case hm => k_is); (case mk => k_is); (case a => k_is); (case i => k_is); (case l => k_is); (case c => k_is); (case k => k_is)
    case hO =>
      refine' Lk.mkOffice KX G ?hm ?mk ?a ?i ?l ?c ?k
      (case hm => k_is); (case mk => k_is); (case a => k_is); (case i => k_is); (case l => k_is); (case c => k_is); (case k => k_is)
    case h10 =>
      refine' Lk.mk10 KX G ?a ?l ?c ?k
      (case a => k_is); (case l => k_is); (case c => k_is); (case k => k_is)
    case h11 =>
      refine' Lk.mk11 KX G ?a ?l ?c ?k
      (case a => k_is); (case l => k_is); (case c => k_is); (case k => k_is)
    case h12 =>
      refine' Lk.mk12 KX G ?a ?l ?c ?k
      (case a => k_is); (case l => k_is); (case c => k_is); (case k => k_is)
    case h13 =>
      refine' Lk.mk13 KX G ?a ?l ?c ?k
      (case a => k_is); (case l => k_is); (case c => k_is); (case k => k_is)
    case h14 =>
      refine' Lk.mk14 KX G ?a ?l ?c ?k
      (case a => k_is); (case l => k_is); (case c => k_is); (case k => k_is)
    case h15 =>
      refine' Lk.mk15 KX G ?a ?l ?c ?k
      (case a => k_is); (case l => k_is); (case c => k_is); (case k => k_is)
    case h16 =>
      refine' Lk.mk16 KX G ?a ?l ?c ?k
      (case a => k_is); (case l => k_is); (case c => k_is); (case k => k_is)
    case h17 =>
      refine' Lk.mk17 KX G ?a ?l ?c ?k
      (case a => k_is); (case l => k_is); (case c => k_is); (case k => k_is)
    case h18 =>
      refine' Lk.mk18 KX G ?a ?l ?c ?k
      (case a => k_is); (case l => k_is); (case c => k_is); (case k => k_is)
    case h19 =>
      refine' Lk.mk19 KX G ?a ?l ?c ?k
      (case a => k_is); (case l => k_is); (case c => k_is); (case k => k_is)
    case h20 =>
      refine' Lk.mk20 KX G ?a ?l ?c ?k
      (case a => k_is); (case l => k_is); (case c => k_is); (case k => k_is)
    case h21 =>
      refine' Lk.mk21 KX G ?a ?l ?c ?k
      (case a => k_is); (case l => k_is); (case c => k_is); (case k => k_is)
    case h22 =>
      refine' Lk.mk22 KX G ?a ?l ?c ?k
      (case a => k_is); (case l => k_is); (case c => k_is); (case k => k_is)
    case h25 =>
      refine' Lk.mk25 KX G ?a ?l ?c ?k
      (case a => k_is); (case l => k_is); (case c => k_is); (case k => k_is)
    case h28 =>
      refine' Lk.mk28 KX G ?a ?l ?c ?k
      (case a => k_is); (case l => k_is); (case c => k_is); (case k => k_is)
    case h30 =>
      refine' Lk.mk30 KX G ?a ?l ?c ?k
      (case a => k_is); (case l => k_is); (case c => k_is); (case k => k_is)
    case h31 =>
      refine' Lk.mk31 KX G ?a ?l ?c ?k
      (case a => k_is); (case l => k_is); (case c => k_is); (case k => k_is)
    case h32 =>
      refine' Lk.mk32 KX G ?a ?l ?c ?k
      (case a => k_is); (case l => k_is); (case c => k_is); (case k => k_is)
    case h35 =>
      refine' Lk.mk35 KX G ?a ?l ?c ?k
      (case a => k_is); (case l => k_is); (case c => k_is); (case k => k_is)
    case h36 =>
      refine' Lk.mk36 KX G ?a ?l ?c ?k
      (case a => k_is); (case l => k_is); (case c => k_is); (case k => k_is)
    case h37 =>
      refine' Lk.mk37 KX G ?a ?l ?c ?k
      (case a => k_is); (case l => k_is); (case c => k_is); (case k => k_is)
    case h38 =>
      refine' Lk.mk38 KX G ?a ?l ?c ?k
      (case a => k_is); (case l => k_is); (case c => k_is); (case k => k_is)
    case h39 =>
      refine' Lk.mk39 KX G ?a ?l ?c ?k
      (case a => k_is); (case l => k_is); (case c => k_is); (case k => k_is)
    case h40 =>
      refine' Lk.mk40 KX G ?a ?l ?c ?k
      (case a => k_is); (case l => k_is); (case c => k_is); (case k => k_is)
    case h42 =>
      refine' Lk.mk42 KX G ?a ?l ?c ?k
      (case a => k_is); (case l => k_is); (case c => k_is); (case k => k_is)
    case h43 =>
      refine' Lk.mk43 KX G ?a ?l ?c ?k
      (case a => k_is); (case l => k_is); (case c => k_is); (case k => k_is)
    case h44 =>
      refine' Lk.mk44 KX G ?a ?l ?c ?k
      (case a => k_is); (case l => k_is); (case c => k_is); (case k => k_is)
    case h45 =>
      refine' Lk.mk45 KX G ?a ?l ?c ?k
      (case a => k_is); (case l => k_is); (case c => k_is); (case k => k_is)
    case h46 =>
      refine' Lk.mk46 KX G ?a ?l ?c ?k
      (case a => k_is); (case l => k_is); (case c => k_is); (case k => k_is)
    case h47 =>
      refine' Lk.mk47 KX G ?a ?l ?c ?k
      (case a => k_is); (case l => k_is); (case c => k_is); (case k => k_is)
    case h48 =>
      refine' Lk.mk48 KX G ?a ?l ?c ?k
      (case a => k_is); (case l => k_is); (case c => k_is); (case k => k_is)
    case h49 =>
      refine' Lk.mk49 KX G ?a ?l ?c ?k
      (case a => k_is); (case l => k_is); (case c => k_is); (case k => k_is)
    case h50 =>
      refine' Lk.mk50 KX G ?a ?l ?c ?k
      (case a => k_is); (case l => k_is); (case c => k_is); (case k => k_is)
    case h51 =>
      refine' Lk.mk51 KX G ?a ?l ?c ?k
      (case a => k_is); (case l => k_is); (case c => k_is); (case k => k_is)
    case h52 =>
      refine' Lk.mk52 KX G ?a ?l ?c ?k
      (case a => k_is); (case l => k_is); (case c => k_is); (case k => k_is)
    case h53 =>
      refine' Lk.mk53 KX G ?a ?l ?c ?k
      (case a => k_is); (case l => k_is); (case c => k_is); (case k => k_is)
    case h54 =>
      refine' Lk.mk54 KX G ?a ?l ?c ?k
      (case a => k_is); (case l => k_is); (case c => k_is); (case k => k_is)
    case h55 =>
      refine' Lk.mk55 KX G ?a ?l ?c ?k
      (case a => k_is); (case l => k_is); (case c => k_is); (case k => k_is)
    case h56 =>
      refine' Lk.mk56 KX G ?a ?l ?c ?k
      (case a => k_is); (case l => k_is); (case c => k_is); (case k => k_is)
    case h57 =>
      refine' Lk.mk57 KX G ?a ?l ?c ?k
      (case a => k_is); (case l => k_is); (case c => k_is); (case k => k_is)
    case h59 =>
      refine' Lk.mk59 KX G ?a ?l ?c ?k
      (case a => k_is); (case l => k_is); (case c => k_is); (case k => k_is)
    case h60 =>
      refine' Lk.mk60 KX G ?a ?l ?c ?k
      (case a => k_is); (case l => k_is); (case c => k_is); (case k => k_is)
    case h61 =>
      refine' Lk.mk61 KX G ?a ?l ?c ?k
      (case a => k_is); (case l => k_is); (case c => k_is); (case k => k_is)
    case h62 =>
      refine' Lk.mk62 KX G ?a ?l ?c ?k
      (case a => k_is); (case l => k_is); (case c => k_is); (case k => k_is)
    case h63 =>
      refine' Lk.mk63 KX G ?a ?l ?c ?k
      (case a => k_is); (case l => k_is); (case c => k_is); (case k => k_is)
