import PyProof.Rows.All
import Wide.All
import OpenK.AllK
import Wide.FinOn
import HandS.ForMost
import HandS.IsInst
import HandS.Conv
import HandS.Star
import HandS.TupAny
import HandS.Zip
import HandS.Walk
import HandS.SortKw
import HandS.Codes
import KE.SortKeyHeap
import KE.KSortKey
import KE.GoesEnum
import PySem.Challenge.RW_pitlots_k16_whole_pits_at_prices
set_option Elab.async false
set_option linter.all false
set_option maxRecDepth 100000
set_option maxHeartbeats 4000000
namespace Pk
/-! ### lots and pits as the loops lay them -/
def lotsN : Nat → List (List Int)
  | 0 => [[]]
  | n + 1 => lotsN n ++ (lotsN n).map (fun l => l ++ [(n : Int)])
def needs (cov : List (List Int)) (b : Int) : List Int := cov.getD b.toNat []
def fits (cov : List (List Int)) (b : Int) (l : List Int) : Bool := (needs cov b).all fun o => l.contains o
def pitsN (cov : List (List Int)) : Nat → List (List Int)
  | 0 => [[]]
  | n + 1 => pitsN cov n ++ ((pitsN cov n).filter (fits cov (n : Int))).map (fun l => l ++ [(n : Int)])
def isPit (cov : List (List Int)) (l : List Int) : Bool := l.all fun b => fits cov b l
/-- a ground's covers: each need is a lesser block -/
def Low (cov : List (List Int)) : Prop := ∀ b : Nat, ∀ o ∈ needs cov (b : Int), 0 ≤ o ∧ o < (b : Int)

theorem lotsN_mem : ∀ {n : Nat} {l : List Int}, l ∈ lotsN n → ∀ b ∈ l, 0 ≤ b ∧ b < (n : Int) := by
  intro n
  induction n with
  | zero =>
    intro l hl b hb
    have e : l = [] := by simpa [lotsN] using hl
    rw [e] at hb
    cases hb
  | succ n ih =>
    intro l hl b hb
    rcases List.mem_append.mp hl with h | h
    · have := ih h b hb
      omega
    · obtain ⟨m, hm, rfl⟩ := List.mem_map.mp h
      rcases List.mem_append.mp hb with q | q
      · have := ih hm b q
        omega
      · have e := List.mem_singleton.mp q
        omega
theorem contains_snoc {l : List Int} {n o : Int} (h : o ≠ n) : (l ++ [n]).contains o = l.contains o := by
  rw [Bool.eq_iff_iff]
  simp [h]
theorem fits_snoc {cov : List (List Int)} (hc : Low cov) {l : List Int} {n : Nat} {b : Int} (h0 : 0 ≤ b) (hb : b ≤ (n : Int)) : fits cov b (l ++ [(n : Int)]) = fits cov b l := by
  unfold fits
  rw [Bool.eq_iff_iff, List.all_eq_true, List.all_eq_true]
  have hlow : ∀ o ∈ needs cov b, o ≠ (n : Int) := by
    intro o ho
    have e : b = ((b.toNat : Nat) : Int) := by omega
    rw [e] at ho
    have := hc b.toNat o ho
    omega
  constructor
  · intro h o ho
    have := h o ho
    rwa [contains_snoc (hlow o ho)] at this
  · intro h o ho
    rw [contains_snoc (hlow o ho)]
    exact h o ho
theorem isPit_snoc {cov : List (List Int)} (hc : Low cov) {l : List Int} {n : Nat} (hl : ∀ b ∈ l, 0 ≤ b ∧ b < (n : Int)) : isPit cov (l ++ [(n : Int)]) = (isPit cov l && fits cov (n : Int) l) := by
  unfold isPit
  rw [List.all_append]
  have h1 : (l.all fun b => fits cov b (l ++ [(n : Int)])) = l.all fun b => fits cov b l := by
    rw [Bool.eq_iff_iff, List.all_eq_true, List.all_eq_true]
    constructor
    · intro h b hb
      have := h b hb
      rwa [fits_snoc hc (hl b hb).1 (by have := (hl b hb).2; omega)] at this
    · intro h b hb
      rw [fits_snoc hc (hl b hb).1 (by have := (hl b hb).2; omega)]
      exact h b hb
  rw [h1]
  simp only [List.all_cons, List.all_nil, Bool.and_true]
  rw [fits_snoc hc (by omega) (by omega)]
theorem pitsN_eq {cov : List (List Int)} (hc : Low cov) : ∀ n : Nat, pitsN cov n = (lotsN n).filter (isPit cov) := by
  intro n
  induction n with
  | zero => rfl
  | succ n ih =>
    show pitsN cov n ++ ((pitsN cov n).filter (fits cov (n : Int))).map (fun l => l ++ [(n : Int)]) = (lotsN n ++ (lotsN n).map (fun l => l ++ [(n : Int)])).filter (isPit cov)
    rw [List.filter_append, List.filter_map, ih, List.filter_filter]
    congr 2
    refine List.filter_congr fun l hl => ?_
    show (fits cov (n : Int) l && isPit cov l) = isPit cov (l ++ [(n : Int)])
    rw [isPit_snoc hc (lotsN_mem hl), Bool.and_comm]
theorem lotsN_length : ∀ n : Nat, (lotsN n).length = 2 ^ n := by
  intro n
  induction n with
  | zero => rfl
  | succ n ih =>
    show (lotsN n ++ (lotsN n).map _).length = _
    rw [List.length_append, List.length_map, ih, Nat.pow_succ]
    omega
theorem lotsN_len {n : Nat} {l : List Int} (h : l ∈ lotsN n) : l.length ≤ n := by
  induction n generalizing l with
  | zero =>
    have e : l = [] := by simpa [lotsN] using h
    rw [e]
    exact Nat.le_refl _
  | succ n ih =>
    rcases List.mem_append.mp h with q | q
    · exact Nat.le_succ_of_le (ih q)
    · obtain ⟨m, hm, rfl⟩ := List.mem_map.mp q
      rw [List.length_append]
      have := ih hm
      simp
      omega
/-- ascending -/
theorem lotsN_asc {n : Nat} {l : List Int} (h : l ∈ lotsN n) : l.Pairwise (· < ·) := by
  induction n generalizing l with
  | zero =>
    have e : l = [] := by simpa [lotsN] using h
    rw [e]
    exact .nil
  | succ n ih =>
    rcases List.mem_append.mp h with q | q
    · exact ih q
    · obtain ⟨m, hm, rfl⟩ := List.mem_map.mp q
      rw [List.pairwise_append]
      refine ⟨ih hm, List.pairwise_singleton _ _, fun a ha b hb => ?_⟩
      have e := List.mem_singleton.mp hb
      have := (lotsN_mem hm a ha).2
      omega
theorem nil_lotsN : ∀ n : Nat, ([] : List Int) ∈ lotsN n := by
  intro n
  induction n with
  | zero => exact List.mem_singleton.mpr rfl
  | succ n ih => exact List.mem_append_left _ ih
theorem isPit_nil (cov : List (List Int)) : isPit cov [] = true := rfl

/-! ### worths of lots -/
def lotSum (ws : List Int) (l : List Int) : Int := (l.map fun b => ws.getD b.toNat 0).sum
def worthsOf (gs cs : List Int) (p q : Int) : List Int := List.zipWith (fun g c => g * p - c * q) gs cs

/-! ### fractions -/
def lowP (a b : Int) : Int × Int := (a / (Int.gcd a b : Int), b / (Int.gcd a b : Int))
theorem gcd_step {a b : Int} : Int.gcd b (a % b) = Int.gcd a b := by
  rw [Int.emod_def, Int.gcd_sub_mul_left_right, Int.gcd_comm]
theorem gcd_abs {a b : Int} : Int.gcd (if a < 0 then -a else a) (if b < 0 then -b else b) = Int.gcd a b := by
  rw [Int.gcd_eq_natAbs_gcd_natAbs, Int.gcd_eq_natAbs_gcd_natAbs]
  congr 1 <;> split <;> omega
theorem gcd_end {a : Int} : (if a < 0 then -a else a) = ((Int.gcd a 0 : Nat) : Int) := by
  rw [Int.gcd_zero]
  split <;> omega
theorem gcd_pos {a b : Int} (h : 0 < b) : 0 < ((Int.gcd a b : Nat) : Int) := by
  have := Int.gcd_pos_of_ne_zero_right a (b := b) (by omega)
  omega
theorem gcd_le {a b : Int} (h : 0 < b) : ((Int.gcd a b : Nat) : Int) ≤ b := Int.gcd_le_right a h
/-- a price: a fraction in lowest terms with bounds -/
structure Price (p q : Int) : Prop where
  p0 : 0 ≤ p
  p1 : p ≤ 1000000
  q0 : 1 ≤ q
  q1 : q ≤ 1000000
  co : Int.gcd p q = 1
theorem price_low {a b : Int} (a0 : 0 ≤ a) (a1 : a ≤ 1000000) (b0 : 0 < b) (b1 : b ≤ 1000000) : Price (lowP a b).1 (lowP a b).2 := by
  have g0 := gcd_pos (a := a) b0
  have hd := Int.gcd_dvd_right a b
  refine ⟨Int.ediv_nonneg a0 (by omega), ?_, ?_, ?_, ?_⟩
  · exact Int.le_trans (Int.ediv_le_self _ a0) a1
  · have : 0 < b / (Int.gcd a b : Int) := Int.ediv_pos_of_pos_of_dvd b0 (by omega) hd
    show 1 ≤ b / (Int.gcd a b : Int)
    omega
  · exact Int.le_trans (Int.ediv_le_self _ (by omega)) b1
  · exact Int.gcd_ediv_gcd_ediv_gcd (by omega)

/-! ### the greatest -/
def topOf : List Int → Int
  | [] => 0
  | x :: xs => xs.foldl max x
theorem top_ge : ∀ (xs : List Int) (x : Int), x ≤ xs.foldl max x ∧ ∀ y ∈ xs, y ≤ xs.foldl max x := by
  intro xs
  induction xs with
  | nil => intro x; exact ⟨Int.le_refl _, fun y hy => nomatch hy⟩
  | cons z zs ih =>
    intro x
    have h := ih (max x z)
    refine ⟨by show x ≤ zs.foldl max (max x z); have := h.1; omega, fun y hy => ?_⟩
    show y ≤ zs.foldl max (max x z)
    rcases List.mem_cons.mp hy with e | e
    · have := h.1; omega
    · exact h.2 y e
theorem top_mem : ∀ (xs : List Int) (x : Int), xs.foldl max x ∈ x :: xs := by
  intro xs
  induction xs with
  | nil => intro x; exact List.mem_singleton.mpr rfl
  | cons z zs ih =>
    intro x
    show zs.foldl max (max x z) ∈ x :: z :: zs
    rcases List.mem_cons.mp (ih (max x z)) with e | e
    · rw [e]
      rcases Int.le_total x z with q | q
      · rw [Int.max_eq_right q]; exact List.mem_cons_of_mem _ List.mem_cons_self
      · rw [Int.max_eq_left q]; exact List.mem_cons_self
    · exact List.mem_cons_of_mem _ (List.mem_cons_of_mem _ e)
theorem top_is {ns : List Int} {m : Int} (hm : m ∈ ns) (h : ∀ y ∈ ns, y ≤ m) : m = topOf ns := by
  cases ns with
  | nil => cases hm
  | cons x xs =>
    have h1 := h _ (top_mem xs x)
    have h2 : m ≤ xs.foldl max x := by
      rcases List.mem_cons.mp hm with e | e
      · rw [e]; exact (top_ge xs x).1
      · exact (top_ge xs x).2 m e
    show m = xs.foldl max x
    omega
theorem topOf_mem {ns : List Int} (h : ns ≠ []) : topOf ns ∈ ns := by
  cases ns with
  | nil => exact absurd rfl h
  | cons x xs => exact top_mem xs x
/-- the pits of a list that are worth most -/
def bestOf (ws : List Int) (ps : List (List Int)) : List (List Int) := ps.filter fun l => lotSum ws l == topOf (ps.map (lotSum ws))
theorem bestOf_ne {ws : List Int} {ps : List (List Int)} (h : ps ≠ []) : bestOf ws ps ≠ [] := by
  intro e
  have hm : topOf (ps.map (lotSum ws)) ∈ ps.map (lotSum ws) := topOf_mem (by intro q; exact h (List.map_eq_nil_iff.mp q))
  obtain ⟨l, hl, q⟩ := List.mem_map.mp hm
  have : l ∈ bestOf ws ps := List.mem_filter.mpr ⟨hl, by rw [q]; exact beq_self_eq_true _⟩
  rw [e] at this
  cases this

/-! ### covers -/
/-- covers of n blocks: each an ascending row of lesser blocks -/
structure Good (cov : List (List Int)) : Prop where
  n0 : 1 ≤ cov.length
  n1 : cov.length ≤ 6
  asc : ∀ c ∈ cov, c.Pairwise (· < ·)
  low : ∀ (i : Nat) (c : List Int), cov[i]? = some c → ∀ o ∈ c, 0 ≤ o ∧ o < (i : Int)
theorem needs_at {cov : List (List Int)} {i : Nat} {c : List Int} (h : cov[i]? = some c) : needs cov (i : Int) = c := by
  unfold needs
  rw [Int.toNat_natCast, List.getD_eq_getElem?_getD, h]
  rfl
theorem Good.lows {cov : List (List Int)} (g : Good cov) : Low cov := by
  intro b o ho
  cases h : cov[b]? with
  | none =>
    unfold needs at ho
    rw [Int.toNat_natCast, List.getD_eq_getElem?_getD, h] at ho
    cases ho
  | some c =>
    rw [needs_at h] at ho
    exact g.low b c h o ho
theorem asc_at {ns : List Int} (h : ns.Pairwise (· < ·)) {i : Nat} {x y : Int} (hx : ns[i]? = some x) (hy : ns[i + 1]? = some y) : x < y := by
  obtain ⟨h1, e1⟩ := List.getElem?_eq_some_iff.mp hx
  obtain ⟨h2, e2⟩ := List.getElem?_eq_some_iff.mp hy
  rw [← e1, ← e2]
  exact List.pairwise_iff_getElem.mp h i (i + 1) h1 h2 (Nat.lt_succ_self i)
/-- an ascending row of numbers below n has at most n of them -/
theorem len_of_low {ns : List Int} {n : Int} (h : ns.Pairwise (· < ·)) (hb : ∀ o ∈ ns, 0 ≤ o ∧ o < n) : ns.length ≤ n.toNat := by
  have key : ∀ (ns : List Int) (m : Int), ns.Pairwise (· < ·) → (∀ o ∈ ns, m ≤ o ∧ o < n) → ns.length ≤ (n - m).toNat := by
    intro ns
    induction ns with
    | nil => intro m _ _; exact Nat.zero_le _
    | cons x xs ih =>
      intro m hp hb
      obtain ⟨h1, h2⟩ := List.pairwise_cons.mp hp
      have hx := hb x List.mem_cons_self
      have := ih (x + 1) h2 fun o ho => ⟨by have := h1 o ho; omega, (hb o (List.mem_cons_of_mem _ ho)).2⟩
      rw [List.length_cons]
      omega
  have := key ns 0 h hb
  rwa [Int.sub_zero] at this
end Pk
/-! Rules that the hand layer does not have: len of an own instance, enumerate of a tuple, sorted of (length, lot), sorted by key. -/
namespace Pk
open PySem PySem.Spec PyProof.Rows L2

/-! ### len(x), x an own instance with __len__ -/
def rLenO (C : Addr) (sp : Sp) : List V → Hp → VK → Prop := fun xs H Q => ∃ (g dx : Addr) (fs : List (Str × V)), xs = [.ref g] ∧ H g = some (.ins C dx fs) ∧
  sp [.ref g] H (fun v H' => ∃ n : Nat, v = .int (n : Int) ∧ (n : Int) < 2 ^ 63 ∧ Q (.int (n : Int)) H') E0
theorem call_lenO {X : Cx} {k : Nat} {f C : Addr} {fd : FuncData} {ps : List Str} {sp : Sp} (F : FnOk X.prog X.w X.K X.mg X.base CX0 k f fd ps sp) (hr : Room (k + 1) X.A) (hb : Binds X.K fd ps [])
    (hs : PySem.W.findIn X.K (.ref C) "__len__" = some (some (.ref f))) (hf : PySem.W.isFn X.K (.ref f) = true) : CallR X (.builtin "len") (rLenO C sp) := by
  intro pins s σ H xs us Q I r hq
  obtain ⟨g, dx, fs, rfl, hg, h⟩ := hq
  obtain ⟨u, rfl, ru⟩ := vals1 r
  obtain rfl : u = Value.ref g := ru
  obtain ⟨mA, O, _⟩ := ins_get I.hok hg
  obtain ⟨od, IA, _⟩ := O.look
  obtain ⟨m, F'⟩ := I.fr
  refine PySem.W.len_K F' I.ok.mod.kin IA hs hf ?_
  have hl : ([Value.ref g] ++ ([] : List Value)).length = ps.length := F.len _ _ _ _ h
  refine wpAny_call (codeAny_mono (F.run X.A.in1 X.stack s H ⟨[.ref g], []⟩ [.ref g] [.ref g] _ E0 hr.in1 I.env0.in1 (hb s [.ref g] I.kIn hl) (.cons rfl .nil) h) fun r s' hq => ?_)
  cases r with
  | error e => exact False.elim hq
  | ok fl =>
    cases fl with
    | ret u =>
      obtain ⟨v, H', I', rv, n, rfl, hn, q⟩ := I.after hq
      obtain ⟨t, rfl⟩ := rv
      exact ⟨⟨Int.natCast_nonneg n, hn⟩, .int (n : Int), H', I'.tok _, ⟨_, rfl⟩, q⟩
    | next => exact False.elim hq
    | brk => exact False.elim hq
    | cont => exact False.elim hq

/-! ### for i, x in enumerate(t), t a tuple -/
theorem meets_enumT (a : Addr) (items : Array Value) : Meets (Builtin.«enumerate.__new__» ⟨[.type "enumerate", .ref a], []⟩) (fun _ R s => s.heap.IsTuple a items ∧
    R (.ok (.ret (.ref (s.heap.push { cls := .type "tuple_iterator", data := .fields #[.ref a, .int 0 0] }).objs.size)))
      { s with heap := (s.heap.push { cls := .type "tuple_iterator", data := .fields #[.ref a, .int 0 0] }).push { cls := .type "enumerate", data := .fields #[.none, .bool false, .ref s.heap.objs.size, rawInt 0, .none, .none] } }) := by
  refine .of_wp fun prog w A R s h => ?_
  obtain ⟨hp, g, d, tk, os⟩ := s
  obtain ⟨ht, h⟩ := h
  have hsub := sub_enumerate
  have goIt : ∀ {A' : Around} {E : Value → Shared → Prop} {Q : Value → Shared → Prop}, Q (.ref hp.objs.size) ⟨hp.push { cls := .type "tuple_iterator", data := .fields #[.ref a, .int 0 0] }, g, d, tk, os⟩ →
      wpAny (model prog w) A' (pyIter (.ref a)) Q E ⟨hp, g, d, tk, os⟩ := fun q => wpAny_pyIter_tuple ht q
  wp_walk using goIt
  refine wpAny_stack_any fun st => wpAny_pure ?_
  split
  · rename_i c _ _ _ _ _
    cases (c == Value.type "enumerate") <;> (wp_walk using goIt; exact ⟨_, rfl, h⟩)
  · wp_walk using goIt
    exact ⟨_, rfl, h⟩
section
variable {prog : Program} {w : World} {A : Around} {E : Value → Shared → Prop} {s : Shared}
theorem call_enumT {a : Addr} {items : Array Value} {Q : Value → Shared → Prop} (ht : s.heap.IsTuple a items)
    (h : ∀ h', IsEnum h' (s.heap.objs.size + 1) s.heap.objs.size 0 .none → h'.IsTupleIter s.heap.objs.size a 0 → (∀ b o, s.heap.get? b = some o → h'.get? b = some o) → Q (.ref (s.heap.objs.size + 1)) { s with heap := h' }) :
    wpAny (model prog w) A (call (.type "enumerate") [.ref a]) Q E s := by
  refine callType_new F.called_enumerate (by decide) (F.typeCall_enumerate_1 _) (F.newCall_enumerate_1 _) (fun obj => F.args_object_init_2 obj _) F.entry_enumerate_new (meets_enumT a items) ⟨ht, ?_⟩
  have hz : (s.heap.push { cls := .type "tuple_iterator", data := .fields #[.ref a, .int 0 0] }).objs.size = s.heap.objs.size + 1 := Heap.size_push ..
  show _ ∧ _
  rw [hz]
  have hE : IsEnum ((s.heap.push { cls := .type "tuple_iterator", data := .fields #[.ref a, .int 0 0] }).push { cls := .type "enumerate", data := .fields #[.none, .bool false, .ref s.heap.objs.size, rawInt 0, .none, .none] })
      (s.heap.objs.size + 1) s.heap.objs.size 0 .none := by
    have q := Heap.get?_push_size (s.heap.push { cls := .type "tuple_iterator", data := .fields #[.ref a, .int 0 0] }) (o := { cls := .type "enumerate", data := .fields #[.none, .bool false, .ref s.heap.objs.size, rawInt 0, .none, .none] }) rfl
    rwa [hz] at q
  exact ⟨⟨_, hE, rfl⟩, h _ hE ⟨_, Heap.get?_push_of_some _ (Heap.get?_push_size _ rfl), rfl, rfl⟩ fun b o q => Heap.get?_push_of_some _ (Heap.get?_push_of_some _ q)⟩
end
/-- the tuple at a, each item in a new pair with its place -/
def IteT (K : PySem.W.Frag) (a : Addr) : It where
  go := fun i H => ∃ (xs : List V) (x : V), SqT K H a xs ∧ xs[i]? = some x
  yld := fun i H v H' => ∃ T x, v = .ref T ∧ H T = none ∧ H' = upd H T (.tup [.int (i : Nat), x]) ∧ ∀ xs, SqT K H a xs → xs[i]? = some x
  stop := fun i H => ∃ xs : List V, SqT K H a xs ∧ xs.length ≤ i
theorem turn_enumT {P : Program} {w : World} {K : PySem.W.Frag} {elts : List Expr} {kk : Nat} {tpos : Pos} (a e it : Addr) :
    Turn P w K (.Tuple elts kk tpos) (IteT K a) [e, it] e (fun i h => (∃ old, IsEnum h e it ((i : Nat) : Int) old) ∧ h.IsTupleIter it a i ∧ e ≠ it) where
  mem := List.mem_cons_self
  obj := fun i h st b hb => by
    obtain ⟨⟨old, he⟩, ⟨o, ho, hc, hd⟩, _⟩ := st
    rcases List.mem_cons.mp hb with z | z
    · subst z
      exact ⟨_, he, fun v q => nomatch q⟩
    · obtain rfl := List.mem_singleton.mp z
      exact ⟨o, ho, fun v q => by rw [hd] at q; cases q⟩
  keep := fun i h h' st k => by
    obtain ⟨⟨old, he⟩, hi, hne⟩ := st
    exact ⟨⟨old, k e List.mem_cons_self _ he⟩, hi.at fun o q => k it (List.mem_cons_of_mem _ List.mem_cons_self) o q, hne⟩
  item := by
    intro X hP hw hK hc i pins s σ H E I hf st hg
    subst hP hw hK
    obtain ⟨⟨old, he⟩, hit, hne⟩ := st
    obtain ⟨xs, x, hq, hx⟩ := hg
    obtain ⟨its, rv, p, hz⟩ := I.tuple hq
    obtain ⟨u, hu, ru⟩ := rv.get hx
    have hel : e < s.heap.objs.size := Heap.lt_size he
    have hil : it < s.heap.objs.size := by obtain ⟨_, q, _⟩ := hit; exact Heap.lt_size q
    have hai : a ≠ it := fun z => by
      subst z
      obtain ⟨o1, h1, c1, _⟩ := p
      obtain ⟨o2, h2, c2, _⟩ := hit
      rw [h1] at h2; cases h2
      rw [c1] at c2
      injection c2 with c3
      exact absurd c3 (by decide)
    have hae : a ≠ e := fun z => by
      subst z
      obtain ⟨o1, h1, c1, _⟩ := p
      rw [he] at h1
      cases h1
      have c2 : Value.type "enumerate" = Value.type "tuple" := c1
      injection c2 with c3
      exact absurd c3 (by decide)
    have D := Draws.tuple (prog := X.prog) (w := X.w) (A := X.A.in1) (I.ok.hd hc) it a hai its.toArray
    have hlen := rv.length
    have hi : i < its.toArray.size := by
      have q := (List.getElem?_eq_some_iff.mp hx).1
      rw [List.size_toArray]
      omega
    refine wpAny_pyNext_enum_itemC D he ⟨hit, p⟩ hi hne (fun z => ?_) fun y h' tk hy ho hst hT hsz hk => ?_
    · rcases List.mem_cons.mp z with q | q
      · exact hne q
      · exact hae (List.mem_singleton.mp q).symm
    have hyu : y = u := by
      have q : its.toArray[i]? = some u := by simpa using hu
      rw [q] at hy
      exact (Option.some.inj hy).symm
    subst hyu
    refine ⟨_, rfl, wpAny_letOwnedTupleGo_enum (s := { s with heap := h', toks := tk + 1 }) ho fun h'' he' sb => ?_⟩
    have hT2 : h''.get? s.heap.objs.size = some { cls := .type "tuple", data := .seq #[.int i tk, y] } := (sb.2 _ (Nat.ne_of_gt hel)).trans hT
    have new : ObjOk X.prog X.w (upd H s.heap.objs.size (.tup [.int (i : Nat), x])) h'' s.heap.objs.size (.tup [.int (i : Nat), x]) :=
      ⟨by show 2 ≤ sizeLine; decide, [.int i tk, y], .cons ⟨_, rfl⟩ (.cons ru .nil), ⟨_, hT2, rfl, _, rfl⟩⟩
    have I1 : Inv X pins σ (upd H s.heap.objs.size (.tup [.int (i : Nat), x])) { s with heap := h'', toks := tk + 1 } := by
      refine I.turnedNew (ch := [e, it]) (fun b ob hb q => ?_) hf (Nat.le_refl _) new
      have n1 : b ≠ e := fun z => hb (by rw [z]; exact List.mem_cons_self)
      have n2 : b ≠ it := fun z => hb (by rw [z]; exact List.mem_cons_of_mem _ List.mem_cons_self)
      exact (sb.2 b n1).trans (hk b ob n1 n2 q)
    refine ⟨.ref s.heap.objs.size, _, I1, rfl, ⟨_, x, rfl, I.hok.fresh (Nat.le_refl _), rfl, fun ys hy => by rw [I.tuple_inj hy hq]; exact hx⟩, ⟨⟨y, ?_⟩, hst.1.at fun o q => (sb.2 it (Ne.symm hne)).trans q, hne⟩, fun b hb => ?_⟩
    · rw [show ((i + 1 : Nat) : Int) = (i : Int) + 1 from rfl]
      exact he'
    · have hb' : b < s.heap.objs.size := by
        rcases List.mem_cons.mp hb with z | z
        · rw [z]; exact hel
        · rw [List.mem_singleton.mp z]; exact hil
      rw [upd_ne (Nat.ne_of_lt hb')]
      exact (hf b hb).1
  done := by
    intro X hP hw hK hc i pins s σ H E I hf st hg
    subst hP hw hK
    obtain ⟨⟨old, he⟩, hit, hne⟩ := st
    obtain ⟨xs, hq, hx⟩ := hg
    obtain ⟨its, rv, p, hz⟩ := I.tuple hq
    obtain ⟨f0, f1, f2, f3, f4, f5⟩ := hf it (List.mem_cons_of_mem _ List.mem_cons_self)
    have hl := rv.length
    have hai : a ≠ it := fun z => by
      subst z
      obtain ⟨o1, h1, c1, _⟩ := p
      obtain ⟨o2, h2, c2, _⟩ := hit
      rw [h1] at h2; cases h2
      rw [c1] at c2
      injection c2 with c3
      exact absurd c3 (by decide)
    have D : Draws X.prog X.w X.A.in1 it [it, a] i (fun _ _ => False) (fun j h => j = i ∧ h.IsTupleIter it a i ∧ h.IsTuple a its.toArray) :=
      { live := fun _ _ st => by obtain ⟨_, ⟨o, ho, _⟩, _⟩ := st; exact ⟨o, ho⟩
        frame := fun _ _ _ st hk => ⟨st.1, st.2.1.at fun o e => hk it List.mem_cons_self o e, st.2.2.at fun o e => hk a (List.mem_cons_of_mem _ List.mem_cons_self) o e⟩
        item := fun j s Q E hj st hQ => absurd st.1 (Nat.ne_of_lt hj)
        done := fun s Q E st hE => wpAny_nextOf_tuple_end (I.ok.hd hc) st.2.1 st.2.2 (by rw [List.getElem?_toArray]; exact List.getElem?_eq_none_iff.mpr (by omega)) hE }
    exact wpAny_pyNext_enum_endD D he ⟨rfl, hit, p⟩ fun h' eb => ⟨rfl, I.turned (t' := s.toks) (fun b o hb q => eb b o hb q) f0 f1 f3 f4 f5⟩
  self := fun A i s Q E st h => by
    obtain ⟨⟨_, he⟩, _⟩ := st
    exact wpAny_pyIter_enum he h
def iEnumT (K : PySem.W.Frag) (ta : TA) : TI := fun σ H R => ta σ H fun vs H1 => ∃ a xs, vs = [.ref a] ∧ SqT K H1 a xs ∧ R (IteT K a) H1
theorem pi_enumT {X : Cx} {e : Expr} {ta : TA} {p pos tpos : Pos} {elts : List Expr} {kk : Nat} (hg : Gl X "enumerate") (hm : X.mg "enumerate" = none) (ha : PA X [e] ta) (hs : starEach [e] X.env = [(false, eval e X.env)] := by rfl) :
    PI X (.Tuple elts kk tpos) (.Call (.Name "enumerate" p) [e] [] pos) (iEnumT X.K ta) := by
  refine ⟨fun pins s σ H R I h => Call_ (ld_blt I hg hm boot_enumerate (PyProof.Rows.callWith_type1 (thn (ha.run pos pins s σ H _ I h) fun us s1 q => ?_) hs rfl))⟩
  obtain ⟨vs, H1, I1, r1, a, xs, rfl, hq, q⟩ := q
  obtain ⟨u, rfl, ru⟩ := vals1 r1
  obtain rfl : u = Value.ref a := ru
  obtain ⟨its, rv, pt, hz⟩ := I1.tuple hq
  refine call_enumT pt fun h' he hit hk => wpAny_pyIter_enum he ?_
  have I2 : Inv X pins σ H1 { s1 with heap := h' } := I1.kept (t' := s1.toks) hk
  refine ⟨s1.heap.objs.size + 1, [s1.heap.objs.size + 1, s1.heap.objs.size], _, _, H1, rfl, I2, turn_enumT a (s1.heap.objs.size + 1) s1.heap.objs.size, ⟨⟨.none, he⟩, hit, Nat.succ_ne_self _⟩, fun b hb => ?_, q⟩
  have hle : s1.heap.objs.size ≤ b := by
    rcases List.mem_cons.mp hb with z | z
    · rw [z]; exact Nat.le_add_right _ _
    · rw [List.mem_singleton.mp z]; exact Nat.le_refl _
  exact I1.fpOk hle (I1.hok.fresh hle)
theorem walk_enumT {K : PySem.W.Frag} {a : Addr} {xs : List V} : Walk (IteT K a) xs.length (fun H => SqT K H a xs) (YPair (fun i => some (.int (i : Nat))) (fun i => xs[i]?)) where
  goes := fun i H hi hG => ⟨xs, xs[i], hG, List.getElem?_eq_getElem hi⟩
  stops := fun H hG => ⟨xs, hG, Nat.le_refl _⟩
  yields := fun i H v H' hi hG hy => by
    obtain ⟨T, x, h1, h2, h3, h4⟩ := hy
    exact ⟨T, .int (i : Nat), x, h1, h2, h3, rfl, h4 xs hG⟩
end Pk
/-! What stands in the abstract heap: tuples of ints, tuples and lists of such; what a call leaves. -/
namespace Pk
open PySem PySem.Spec PyProof.Rows L2

abbrev iv (ns : List Int) : List V := ns.map V.int
theorem iv_append (a b : List Int) : iv (a ++ b) = iv a ++ iv b := List.map_append
/-- at a a tuple of the ints ns -/
def TI (H : Hp) (a : Addr) (ns : List Int) : Prop := H a = some (.tup (iv ns))
/-- at a a tuple of tuples of ints -/
def TT (H : Hp) (a : Addr) (nss : List (List Int)) : Prop := ∃ as : List Addr, H a = some (.tup (as.map V.ref)) ∧ Paired (TI H) as nss
/-- at a a list of tuples of ints -/
def LT (H : Hp) (a : Addr) (nss : List (List Int)) : Prop := ∃ as : List Addr, H a = some (.lst (as.map V.ref)) ∧ Paired (TI H) as nss
/-- all but what stands at r is kept -/
def But (r : Addr) (H H' : Hp) : Prop := ∀ b o, b ≠ r → H b = some o → H' b = some o
/-- tuples are kept -/
def Kp (H H' : Hp) : Prop := ∀ b xs, H b = some (.tup xs) → H' b = some (.tup xs)

theorem But.refl (r : Addr) (H : Hp) : But r H H := fun _ _ _ h => h
theorem But.trans {r : Addr} {H H1 H2 : Hp} (a : But r H H1) (b : But r H1 H2) : But r H H2 := fun c o n h => b c o n (a c o n h)
theorem But.of {r : Addr} {H H1 : Hp} (s : Same H H1) : But r H H1 := fun c o _ h => s c o h
theorem But.free {r : Addr} {H H1 : Hp} (s : But r H H1) {p : Addr} (h : H1 p = none) (n : p ≠ r) : H p = none := by
  cases e : H p with
  | none => rfl
  | some o => rw [s p o n e] at h; cases h
theorem same_new {H : Hp} {p : Addr} {o : HO} (h : H p = none) : Same H (upd H p o) := fun b u e => by
  rw [upd_ne (ne_of_none e h)]
  exact e
theorem same_upd {H H' : Hp} {p : Addr} {o : HO} (s : Same H H') (h : H p = none) : Same H (L2.upd H' p o) := fun b u e => by
  rw [upd_ne (ne_of_none e h)]
  exact s b u e
theorem But.upd {r : Addr} {H H' : Hp} {o : HO} (s : But r H H') : But r H (L2.upd H' r o) := fun b u n e => by
  rw [upd_ne n]
  exact s b u n e
theorem But.updN {r p : Addr} {H H' : Hp} {o : HO} (s : But r H H') (h : H p = none) : But r H (L2.upd H' p o) := fun b u n e => by
  rw [upd_ne (ne_of_none e h)]
  exact s b u n e
theorem Kp.of {H H' : Hp} (s : Same H H') : Kp H H' := fun b xs e => s b _ e
theorem Kp.but {r : Addr} {xs : List V} {H H' : Hp} (hr : H r = some (.lst xs)) (s : But r H H') : Kp H H' := fun b ys e => s b _ (ne_of e hr (by intro q; cases q)) e
theorem kp_new {H : Hp} {p : Addr} {o : HO} (h : H p = none) : Kp H (L2.upd H p o) := Kp.of (same_new h)
theorem kp_set {H : Hp} {p : Addr} {xs : List V} {o : HO} (h : H p = some (.lst xs)) : Kp H (L2.upd H p o) := Kp.but h (But.refl p H).upd
theorem Kp.refl (H : Hp) : Kp H H := fun _ _ h => h
theorem Kp.trans {H H1 H2 : Hp} (a : Kp H H1) (b : Kp H1 H2) : Kp H H2 := fun c o h => b c o (a c o h)

theorem paired_mono {α β : Type} {F G : α → β → Prop} {xs : List α} {ys : List β} (p : Paired F xs ys) (h : ∀ a b, F a b → G a b) : Paired G xs ys := by
  induction p with
  | nil => exact .nil
  | cons f _ ih => exact .cons (h _ _ f) ih
theorem paired_append {α β : Type} {F : α → β → Prop} {xs xs' : List α} {ys ys' : List β} (p : Paired F xs ys) (q : Paired F xs' ys') : Paired F (xs ++ xs') (ys ++ ys') := by
  induction p with
  | nil => exact q
  | cons f _ ih => exact .cons f ih
theorem paired_right {α β : Type} {F : α → β → Prop} {xs : List α} {ys : List β} (p : Paired F xs ys) : ∀ {i : Nat} {y : β}, ys[i]? = some y → ∃ x, xs[i]? = some x ∧ F x y := by
  induction p with
  | nil => intro i y h; simp at h
  | cons f _ ih =>
    intro i y h
    cases i with
    | zero =>
      simp at h
      subst h
      exact ⟨_, rfl, f⟩
    | succ i =>
      simp at h
      obtain ⟨x, hx, fx⟩ := ih h
      exact ⟨x, by simpa using hx, fx⟩
theorem paired_left {α β : Type} {F : α → β → Prop} {xs : List α} {ys : List β} (p : Paired F xs ys) : ∀ {i : Nat} {x : α}, xs[i]? = some x → ∃ y, ys[i]? = some y ∧ F x y := by
  induction p with
  | nil => intro i y h; simp at h
  | cons f _ ih =>
    intro i y h
    cases i with
    | zero =>
      simp at h
      subst h
      exact ⟨_, rfl, f⟩
    | succ i =>
      simp at h
      obtain ⟨x, hx, fx⟩ := ih h
      exact ⟨x, by simpa using hx, fx⟩
theorem paired_len {α β : Type} {F : α → β → Prop} {xs : List α} {ys : List β} (p : Paired F xs ys) : xs.length = ys.length := by
  induction p with
  | nil => rfl
  | cons _ _ ih => rw [List.length_cons, List.length_cons, ih]

theorem TI.kp {H H' : Hp} {a : Addr} {ns : List Int} (h : TI H a ns) (k : Kp H H') : TI H' a ns := k _ _ h
theorem TI.same {H H' : Hp} {a : Addr} {ns : List Int} (h : TI H a ns) (s : Same H H') : TI H' a ns := s _ _ h
theorem TI.sq {K : PySem.W.Frag} {H : Hp} {a : Addr} {ns : List Int} (h : TI H a ns) : SqT K H a (iv ns) := SqT.of h
theorem tis_kp {H H' : Hp} {as : List Addr} {nss : List (List Int)} (h : Paired (TI H) as nss) (k : Kp H H') : Paired (TI H') as nss := paired_mono h fun _ _ q => q.kp k
theorem TT.kp {H H' : Hp} {a : Addr} {nss : List (List Int)} (h : TT H a nss) (k : Kp H H') : TT H' a nss := by
  obtain ⟨as, h1, h2⟩ := h
  exact ⟨as, k _ _ h1, tis_kp h2 k⟩
theorem TT.same {H H' : Hp} {a : Addr} {nss : List (List Int)} (h : TT H a nss) (s : Same H H') : TT H' a nss := h.kp (Kp.of s)
theorem LT.same {H H' : Hp} {a : Addr} {nss : List (List Int)} (h : LT H a nss) (s : Same H H') : LT H' a nss := by
  obtain ⟨as, h1, h2⟩ := h
  exact ⟨as, s _ _ h1, tis_kp h2 (Kp.of s)⟩
theorem LT.but {r : Addr} {xs : List V} {H H' : Hp} {a : Addr} {nss : List (List Int)} (h : LT H a nss) (n : a ≠ r) (hr : H r = some (.lst xs)) (s : But r H H') : LT H' a nss := by
  obtain ⟨as, h1, h2⟩ := h
  exact ⟨as, s _ _ n h1, tis_kp h2 (Kp.but hr s)⟩
/-- a list or tuple that is read stays where all but another list stays -/
theorem seq_but {K : PySem.W.Frag} {r : Addr} {zs xs : List V} {H H' : Hp} {a : Addr} (hr : H r = some (.lst zs)) (ne : xs ≠ zs) (s : But r H H') (h : SqL K H a xs) : SqL K H' a xs := by
  rcases h with h | h
  · rcases h with h | ⟨o, h⟩
    · exact .inl (.inl (s a _ (ne_of h hr (by intro q; injection q with q; exact ne q)) h))
    · exact .inl (.inr ⟨o, s a _ (ne_of h hr (by intro q; cases q)) h⟩)
  · exact .inr h
theorem iv_at {ns : List Int} {i : Nat} {y : V} (h : (iv ns)[i]? = some y) : ∃ z, ns[i]? = some z ∧ y = V.int z := by
  rw [List.getElem?_map] at h
  cases e : ns[i]? with
  | none => rw [e] at h; cases h
  | some z => rw [e] at h; exact ⟨z, rfl, (Option.some.inj h).symm⟩
theorem iv_get {ns : List Int} {i : Nat} {z : Int} (h : ns[i]? = some z) : (iv ns)[i]? = some (V.int z) := by
  rw [List.getElem?_map, h]
  rfl
theorem ref_at {as : List Addr} {i : Nat} {y : V} (h : (as.map V.ref)[i]? = some y) : ∃ a, as[i]? = some a ∧ y = V.ref a := by
  rw [List.getElem?_map] at h
  cases e : as[i]? with
  | none => rw [e] at h; cases h
  | some z => rw [e] at h; exact ⟨z, rfl, (Option.some.inj h).symm⟩
theorem ref_get {as : List Addr} {i : Nat} {a : Addr} (h : as[i]? = some a) : (as.map V.ref)[i]? = some (V.ref a) := by
  rw [List.getElem?_map, h]
  rfl
theorem int_at {ns : List Int} {z : Int} {j : Nat} {v : Int} (e : z = (j : Int)) (h : ns[j]? = some v) : atI (iv ns) z = some (V.int v) := at_of e (iv_get h)
theorem atI0 {α : Type} {x : α} {xs : List α} : atI (x :: xs) 0 = some x := atI_nat (j := 0) rfl
theorem inV_ints (o : Int) : ∀ l : List Int, inV (.int o) (iv l) = l.contains o := by
  intro l
  unfold inV
  induction l with
  | nil => rfl
  | cons x xs ih =>
    show ((V.int x :: iv xs).any fun y => eqV y (V.int o)) = _
    rw [List.any_cons, ih, List.contains_cons]
    show ((x == o) || _) = ((o == x) || _)
    congr 1
    rw [Bool.eq_iff_iff, beq_iff_eq, beq_iff_eq]
    exact eq_comm
theorem flat_ints (l : List Int) : (iv l).all flatV = true := by
  rw [List.all_map]
  exact List.all_eq_true.mpr fun _ _ => rfl
theorem refs_inj {as bs : List Addr} (h : as.map V.ref = bs.map V.ref) : as = bs := by
  induction as generalizing bs with
  | nil => cases bs with
    | nil => rfl
    | cons b bs => cases h
  | cons a as ih => cases bs with
    | nil => cases h
    | cons b bs =>
      injection h with h1 h2
      injection h1 with h3
      rw [h3, ih h2]
theorem ivs_inj {as bs : List Int} (h : iv as = iv bs) : as = bs := by
  induction as generalizing bs with
  | nil => cases bs with
    | nil => rfl
    | cons b bs => cases h
  | cons a as ih => cases bs with
    | nil => cases h
    | cons b bs =>
      injection h with h1 h2
      injection h1 with h3
      rw [h3, ih h2]
/-- the items as data -/
theorem dp_ints {K : PySem.W.Frag} {H : Hp} : ∀ ns : List Int, DpAll K H (iv ns) (ns.map PyData.int)
  | [] => .nil
  | n :: ns => .cons (.int n) (dp_ints ns)
theorem TI.dp {K : PySem.W.Frag} {H : Hp} {a : Addr} {ns : List Int} (h : TI H a ns) : Dp K H (.ref a) (.tuple (ns.map PyData.int)) := .tup h.sq (dp_ints ns)
theorem le_line {n : Nat} (h : n ≤ 100000) : n ≤ sizeLine := Nat.le_trans h (by decide)
theorem lt_line {n : Nat} (h : n ≤ 100000) : n < sizeLine := Nat.lt_of_le_of_lt h (by decide)
end Pk
/-! sorted of pairs (length, lot); sorted of lots by a key that gives such pairs. -/
namespace Pk
open PySem PySem.Spec PyProof.Rows L2

/-- what orders lots -/
def skey (l : List Int) : PyData := .tuple [.int (l.length : Int), .tuple (l.map PyData.int)]
abbrev srt (ls : List (List Int)) : List (List Int) := ls.mergeSort (PySem.W.dataLe false skey)
theorem skey_alike (a b : List Int) : PySem.W.alike (skey a) (skey b) = true := by
  simp [skey, PySem.W.alike, PySem.W.alikeAll, PySem.W.alike_ints]
theorem skey_depth (l : List Int) : (skey l).depth = 2 := by
  simp [skey, PyData.depth, PyData.depthAll, PySem.W.depth_ints]
theorem skey_all (ls : List (List Int)) : PySem.W.AllAlike (ls.map skey) := PySem.W.AllAlike.of skey_alike
theorem skey_ok (ls : List (List Int)) : PySem.W.Sortable (ls.map skey) := PySem.W.Sortable.tuples fun _ => ⟨_, _, rfl⟩
theorem srt_total : PySem.W.TotalLe (PySem.W.dataLe false skey) := PySem.W.sortLe_total _ _ _
/-- what is sorted, then kept in part, is what was kept in part, then sorted -/
theorem srt_filter (p : List Int → Bool) (ls : List (List Int)) : (srt ls).filter p = srt (ls.filter p) := by
  refine PySem.W.sort_unique srt_total ((PySem.W.sort_pairwise srt_total ls).filter p) fun c => ?_
  have hc : ∀ l : List (List Int), (l.filter p).filter (PySem.W.sameRank (PySem.W.dataLe false skey) c) = (l.filter (PySem.W.sameRank (PySem.W.dataLe false skey) c)).filter p := fun l => by
    rw [List.filter_filter, List.filter_filter]
    exact List.filter_congr fun _ _ => Bool.and_comm _ _
  rw [hc, hc, PySem.W.sort_stable srt_total]
theorem srt_mem {l : List Int} {ls : List (List Int)} : l ∈ srt ls ↔ l ∈ ls := List.mem_mergeSort
theorem srt_len (ls : List (List Int)) : (srt ls).length = ls.length := List.length_mergeSort _

/-- a pair of a lot's length and the lot -/
def PR (H : Hp) (q : Addr) (l : List Int) : Prop := ∃ a, H q = some (.tup [.int (l.length : Int), .ref a]) ∧ TI H a l
theorem PR.dp {K : PySem.W.Frag} {H : Hp} {q : Addr} {l : List Int} (h : PR H q l) : Dp K H (.ref q) (skey l) := by
  obtain ⟨a, h1, h2⟩ := h
  exact .tup (SqT.of h1) (.cons (.int _) (.cons h2.dp .nil))
theorem PR.kp {H H' : Hp} {q : Addr} {l : List Int} (h : PR H q l) (k : Kp H H') : PR H' q l := by
  obtain ⟨a, h1, h2⟩ := h
  exact ⟨a, k _ _ h1, h2.kp k⟩
theorem refs_of {as : List Addr} {us : List Value} (r : Vals (as.map V.ref) us) : us = as.map Value.ref := by
  induction as generalizing us with
  | nil => cases r; rfl
  | cons a as ih =>
    cases r with
    | cons h t =>
      obtain rfl : _ = Value.ref a := h
      rw [ih t]
      rfl
theorem vals_ref (as : List Addr) : Vals (as.map V.ref) (as.map Value.ref) := by
  induction as with
  | nil => exact .nil
  | cons a as ih => exact .cons rfl ih
theorem each_of {P : Addr → List Int → Prop} {as : List Addr} {ls : List (List Int)} (p : Paired P as ls) : PySem.W.EachIs (fun v l => ∃ a, v = Value.ref a ∧ P a l) (as.map Value.ref) ls := by
  induction p with
  | nil => exact .nil
  | cons f _ ih => exact .cons ⟨_, rfl, f⟩ ih
theorem of_each {P : Addr → List Int → Prop} {us : List Value} {ls : List (List Int)} (e : PySem.W.EachIs (fun v l => ∃ a, v = Value.ref a ∧ P a l) us ls) : ∃ as : List Addr, us = as.map Value.ref ∧ Paired P as ls := by
  induction e with
  | nil => exact ⟨[], rfl, .nil⟩
  | cons f _ ih =>
    obtain ⟨a, rfl, fa⟩ := f
    obtain ⟨as, rfl, p⟩ := ih
    exact ⟨a :: as, rfl, .cons fa p⟩

/-- sorted(xs), xs a list of pairs (length, lot) -/
def rSortL (K : PySem.W.Frag) : List V → Hp → VK → Prop := fun vs H Q => ∃ (a : Addr) (qs : List Addr) (ls : List (List Int)), vs = [V.ref a] ∧ SqL K H a (qs.map V.ref) ∧ Paired (PR H) qs ls ∧
  ∀ qs' p, Paired (PR H) qs' (srt ls) → H p = none → Q (.ref p) (upd H p (.lst (qs'.map V.ref)))
theorem cr_sortL {X : Cx} (hu : X.A.units + 64 < cLine) : CallR X (.builtin "sorted") (rSortL X.K) := by
  intro pins s σ H vs us Q I r h
  obtain ⟨a, qs, ls, rfl, hs, hp, q⟩ := h
  obtain rfl := Vals.ref1 r
  obtain ⟨its, rv, pl, hz⟩ := I.list hs
  obtain rfl := refs_of rv
  have hlen := paired_len hp
  rw [List.length_map, hlen] at hz
  refine PySem.W.sorted_data (enc := skey) (R := fun v l => ∃ a, v = Value.ref a ∧ PR H a l) pl.isList (each_of hp) ((each_of hp).mono fun v l e => ?_) (skey_all ls) (skey_ok ls) hz (fun b _ => ?_) fun out hl e => ?_
  · obtain ⟨q, rfl, e⟩ := e
    exact (e.dp (K := X.K)).reads I (skey l) _ _ rfl
  · rw [skey_depth]
    omega
  · obtain ⟨qs', rfl, hp'⟩ := of_each e
    obtain ⟨ep, he⟩ := PyProof.Rows.sortedAll_at s.heap (qs.map Value.ref) (qs'.map Value.ref).toArray
    have hl' : (qs'.map V.ref).length ≤ sizeLine := by
      rw [List.length_map, paired_len hp', srt_len]
      exact hz
    exact ⟨.ref _, upd H (s.heap.objs.size + 1) (.lst (qs'.map V.ref)), I.laid (t' := s.toks) (fun _ _ => PyProof.Rows.sortedAll_old) (Nat.le_succ _) ⟨hl', _, ep, vals_ref qs', he⟩, rfl, q _ _ hp' (I.hok.fresh (Nat.le_succ _))⟩

/-- a def that gives (len(lot), lot) of a tuple of ints: its call keeps all that was there -/
def KeyDef (P : Program) (w : World) (K : PySem.W.Frag) (base : Heap) (f : Addr) : Prop :=
  ∀ (A : Around) (s : Shared) (a : Addr) (l : List Int) (us : List Value), K.In s.heap → (∀ b o, base.get? b = some o → s.heap.get? b = some o) → A.handled = none → A.depth + 3 < recursionLimit → Vals (iv l) us → us.length ≤ sizeLine → IsTup s.heap a us.toArray →
    wpAny (model P w) A (call (.ref f) [.ref a]) (PySem.W.KeyPure (skey l) s) (fun _ _ => False) s
/-- sorted(xs, key=f), xs a list of tuples of ints, f such a def -/
def rSortK (K : PySem.W.Frag) (f : Addr) : List V → List V → Hp → VK → Prop := fun vs zs H Q => ∃ (a : Addr) (as : List Addr) (ls : List (List Int)), vs = [V.ref a] ∧ zs = [V.ref f] ∧ SqL K H a (as.map V.ref) ∧ Paired (TI H) as ls ∧
  ∀ as' p, Paired (TI H) as' (srt ls) → H p = none → Q (.ref p) (upd H p (.lst (as'.map V.ref)))
theorem cr_sortK {X : Cx} {f : Addr} {k : Nat} (hr : Room (k + 1) X.A) (hk : Mod X.K X.mg X.base → KeyDef X.prog X.w X.K X.base f) : CallRK X (.builtin "sorted") [Str.ofString "key"] (rSortK X.K f) := by
  intro pins s σ H vs zs us ws Q I r rz h
  obtain ⟨a, as, ls, rfl, rfl, hs, hp, q⟩ := h
  obtain rfl := Vals.ref1 r
  obtain rfl := Vals.ref1 rz
  obtain ⟨its, rv, pl, hz⟩ := I.list hs
  obtain rfl := refs_of rv
  have hlen := paired_len hp
  rw [List.length_map, hlen] at hz
  have hu := hr.units
  have hd := hr.dp
  refine PySem.W.sorted_key_data (b := false) (R := fun v l => ∃ a, v = Value.ref a ∧ TI H a l) skey pl.isList (each_of hp) (skey_all ls) (skey_ok ls) hz (fun b _ => ?_) (PyProof.Rows.ksk_s1 _ _) (fun _ => PyProof.Rows.ksk_l1 _ _) (fun _ => PyProof.Rows.ksk_t1 _ _)
    (fun v l e _ h tk kp => ?_) fun out c h' tk kp h0 hD hl e => ?_
  · rw [skey_depth]
    omega
  · obtain ⟨b, rfl, e⟩ := e
    obtain ⟨us, rb, pb, zb⟩ := I.tuple (e.sq (K := X.K))
    obtain ⟨o, ho, hc⟩ := pb
    exact hk I.ok.mod X.A.in1.in1 { s with heap := h, toks := tk } b l us (I.kIn.keeps kp) (fun b o q => kp b o (I.bk b o q)) hr.hd (by show X.A.depth + 3 < _; omega) rb (by rw [← rb.length]; exact zb) ⟨o, kp _ _ ho, hc⟩
  · obtain ⟨as', rfl, hp'⟩ := of_each e
    have hl' : (as'.map V.ref).length ≤ sizeLine := by
      rw [List.length_map, paired_len hp', srt_len]
      exact hz
    exact ⟨.ref _, upd H (s.heap.objs.size + 1) (.lst (as'.map V.ref)), I.laid (t' := tk) kp (Nat.le_succ _) ⟨hl', _, c, vals_ref as', hD⟩, rfl, q _ _ hp' (I.hok.fresh (Nat.le_succ _))⟩
end Pk
/-! The text by places: each def's statement, its names, its scope. -/
namespace Pk
open PySem L2
def top (i : Nat) : Stmt := PySem.Challenge.pw_pitlots_k16_whole_pits_at_prices.main.body.getD i (.Pass ⟨0, 0, 0, 0⟩)
abbrev s_is_from : Stmt := top 10
abbrev n_is_from : List Str := ["value", "low", "high"]
abbrev p_is_from : List Str := ["value", "low", "high"]
theorem sc_is_from : FnScope n_is_from p_is_from (defScope s_is_from) := ⟨rfl, rfl, rfl, by decide +kernel, rfl, by decide +kernel, by decide +kernel⟩
abbrev s_rises : Stmt := top 11
abbrev n_rises : List Str := ["value", "at"]
abbrev p_rises : List Str := ["value"]
theorem sc_rises : FnScope n_rises p_rises (defScope s_rises) := ⟨rfl, rfl, rfl, by decide +kernel, rfl, by decide +kernel, by decide +kernel⟩
abbrev s_is_cover : Stmt := top 12
abbrev n_is_cover : List Str := ["value", "block", "one"]
abbrev p_is_cover : List Str := ["value", "block"]
theorem sc_is_cover : FnScope n_is_cover p_is_cover (defScope s_is_cover) := ⟨rfl, rfl, rfl, by decide +kernel, rfl, by decide +kernel, by decide +kernel⟩
abbrev s_ginit : Stmt := inClass (top 13) 0
abbrev n_ginit : List Str := ["self", "covers", "index", "value"]
abbrev p_ginit : List Str := ["self", "covers"]
theorem sc_ginit : FnScope n_ginit p_ginit (defScope s_ginit) := ⟨rfl, rfl, rfl, by decide +kernel, rfl, by decide +kernel, by decide +kernel⟩
abbrev s_glen : Stmt := inClass (top 13) 2
abbrev n_glen : List Str := ["self"]
abbrev p_glen : List Str := ["self"]
theorem sc_glen : FnScope n_glen p_glen (defScope s_glen) := ⟨rfl, rfl, rfl, by decide +kernel, rfl, by decide +kernel, by decide +kernel⟩
abbrev s_need_ground : Stmt := top 14
abbrev n_need_ground : List Str := ["ground"]
abbrev p_need_ground : List Str := ["ground"]
theorem sc_need_ground : FnScope n_need_ground p_need_ground (defScope s_need_ground) := ⟨rfl, rfl, rfl, by decide +kernel, rfl, by decide +kernel, by decide +kernel⟩
abbrev s_is_block : Stmt := top 15
abbrev n_is_block : List Str := ["ground", "value"]
abbrev p_is_block : List Str := ["ground", "value"]
theorem sc_is_block : FnScope n_is_block p_is_block (defScope s_is_block) := ⟨rfl, rfl, rfl, by decide +kernel, rfl, by decide +kernel, by decide +kernel⟩
abbrev s_is_lot : Stmt := top 17
abbrev n_is_lot : List Str := ["ground", "value", "one"]
abbrev p_is_lot : List Str := ["ground", "value"]
theorem sc_is_lot : FnScope n_is_lot p_is_lot (defScope s_is_lot) := ⟨rfl, rfl, rfl, by decide +kernel, rfl, by decide +kernel, by decide +kernel⟩
abbrev s_need_lot : Stmt := top 18
abbrev n_need_lot : List Str := ["ground", "lot"]
abbrev p_need_lot : List Str := ["ground", "lot"]
theorem sc_need_lot : FnScope n_need_lot p_need_lot (defScope s_need_lot) := ⟨rfl, rfl, rfl, by decide +kernel, rfl, by decide +kernel, by decide +kernel⟩
abbrev s_sized : Stmt := top 19
abbrev n_sized : List Str := ["lot"]
abbrev p_sized : List Str := ["lot"]
theorem sc_sized : FnScope n_sized p_sized (defScope s_sized) := ⟨rfl, rfl, rfl, by decide +kernel, rfl, by decide +kernel, by decide +kernel⟩
abbrev s_pits_of : Stmt := top 20
abbrev n_pits_of : List Str := ["ground", "found", "block", "firsts", "lot", "one"]
abbrev p_pits_of : List Str := ["ground"]
theorem sc_pits_of : FnScope n_pits_of p_pits_of (defScope s_pits_of) := ⟨rfl, rfl, rfl, by decide +kernel, rfl, by decide +kernel, by decide +kernel⟩
abbrev s_sum_of : Stmt := top 22
abbrev n_sum_of : List Str := ["worths", "lot", "block"]
abbrev p_sum_of : List Str := ["worths", "lot"]
theorem sc_sum_of : FnScope n_sum_of p_sum_of (defScope s_sum_of) := ⟨rfl, rfl, rfl, by decide +kernel, rfl, by decide +kernel, by decide +kernel⟩
abbrev s_greatest_of : Stmt := top 23
abbrev n_greatest_of : List Str := ["worths", "some", "pit"]
abbrev p_greatest_of : List Str := ["worths", "some"]
theorem sc_greatest_of : FnScope n_greatest_of p_greatest_of (defScope s_greatest_of) := ⟨rfl, rfl, rfl, by decide +kernel, rfl, by decide +kernel, by decide +kernel⟩
abbrev s_best_pits : Stmt := top 24
abbrev n_best_pits : List Str := ["ground", "worths", "some", "most", "pit"]
abbrev p_best_pits : List Str := ["ground", "worths"]
theorem sc_best_pits : FnScope n_best_pits p_best_pits (defScope s_best_pits) := ⟨rfl, rfl, rfl, by decide +kernel, rfl, by decide +kernel, by decide +kernel⟩
abbrev s_common : Stmt := top 29
abbrev n_common : List Str := ["one", "other"]
abbrev p_common : List Str := ["one", "other"]
theorem sc_common : FnScope n_common p_common (defScope s_common) := ⟨rfl, rfl, rfl, by decide +kernel, rfl, by decide +kernel, by decide +kernel⟩
abbrev s_lowest : Stmt := top 30
abbrev n_lowest : List Str := ["above", "beneath", "by"]
abbrev p_lowest : List Str := ["above", "beneath"]
theorem sc_lowest : FnScope n_lowest p_lowest (defScope s_lowest) := ⟨rfl, rfl, rfl, by decide +kernel, rfl, by decide +kernel, by decide +kernel⟩
abbrev s_are_from : Stmt := top 31
abbrev n_are_from : List Str := ["ground", "value", "high", "one"]
abbrev p_are_from : List Str := ["ground", "value", "high"]
theorem sc_are_from : FnScope n_are_from p_are_from (defScope s_are_from) := ⟨rfl, rfl, rfl, by decide +kernel, rfl, by decide +kernel, by decide +kernel⟩
abbrev s_need_both : Stmt := top 32
abbrev n_need_both : List Str := ["ground", "gains", "costs"]
abbrev p_need_both : List Str := ["ground", "gains", "costs"]
theorem sc_need_both : FnScope n_need_both p_need_both (defScope s_need_both) := ⟨rfl, rfl, rfl, by decide +kernel, rfl, by decide +kernel, by decide +kernel⟩
abbrev s_is_price : Stmt := top 33
abbrev n_is_price : List Str := ["value"]
abbrev p_is_price : List Str := ["value"]
theorem sc_is_price : FnScope n_is_price p_is_price (defScope s_is_price) := ⟨rfl, rfl, rfl, by decide +kernel, rfl, by decide +kernel, by decide +kernel⟩
abbrev s_need_price : Stmt := top 34
abbrev n_need_price : List Str := ["price"]
abbrev p_need_price : List Str := ["price"]
theorem sc_need_price : FnScope n_need_price p_need_price (defScope s_need_price) := ⟨rfl, rfl, rfl, by decide +kernel, rfl, by decide +kernel, by decide +kernel⟩
abbrev s_worths_by : Stmt := top 35
abbrev n_worths_by : List Str := ["gains", "costs", "price", "gain", "cost"]
abbrev p_worths_by : List Str := ["gains", "costs", "price"]
theorem sc_worths_by : FnScope n_worths_by p_worths_by (defScope s_worths_by) := ⟨rfl, rfl, rfl, by decide +kernel, rfl, by decide +kernel, by decide +kernel⟩
abbrev s_worth_at : Stmt := top 36
abbrev n_worth_at : List Str := ["ground", "gains", "costs", "price", "lot"]
abbrev p_worth_at : List Str := ["ground", "gains", "costs", "price", "lot"]
theorem sc_worth_at : FnScope n_worth_at p_worth_at (defScope s_worth_at) := ⟨rfl, rfl, rfl, by decide +kernel, rfl, by decide +kernel, by decide +kernel⟩
abbrev s_best_by : Stmt := top 37
abbrev n_best_by : List Str := ["ground", "gains", "costs", "price", "worths", "some"]
abbrev p_best_by : List Str := ["ground", "gains", "costs", "price"]
theorem sc_best_by : FnScope n_best_by p_best_by (defScope s_best_by) := ⟨rfl, rfl, rfl, by decide +kernel, rfl, by decide +kernel, by decide +kernel⟩
abbrev s_best_at : Stmt := top 38
abbrev n_best_at : List Str := ["ground", "gains", "costs", "price"]
abbrev p_best_at : List Str := ["ground", "gains", "costs", "price"]
theorem sc_best_at : FnScope n_best_at p_best_at (defScope s_best_at) := ⟨rfl, rfl, rfl, by decide +kernel, rfl, by decide +kernel, by decide +kernel⟩
abbrev s_l_taken : Stmt := top 40
abbrev n_l_taken : List Str := ["_law_row", "_law_many", "_law_found", "_law_cell"]
abbrev p_l_taken : List Str := ["_law_row", "_law_many"]
theorem sc_l_taken : FnScope n_l_taken p_l_taken (defScope s_l_taken) := ⟨rfl, rfl, rfl, by decide +kernel, rfl, by decide +kernel, by decide +kernel⟩
abbrev s_l_covers : Stmt := top 41
abbrev n_l_covers : List Str := ["_law_row", "_law_most", "_law_found", "_law_way", "_law_many", "_law_block", "_law_some", "_law_one"]
abbrev p_l_covers : List Str := ["_law_row", "_law_most"]
theorem sc_l_covers : FnScope n_l_covers p_l_covers (defScope s_l_covers) := ⟨rfl, rfl, rfl, by decide +kernel, rfl, by decide +kernel, by decide +kernel⟩
abbrev s_l_numbers : Stmt := top 42
abbrev n_l_numbers : List Str := ["_law_row", "_law_many", "_law_high", "_law_style", "_law_found", "_law_block", "_law_some"]
abbrev p_l_numbers : List Str := ["_law_row", "_law_many", "_law_high"]
theorem sc_l_numbers : FnScope n_l_numbers p_l_numbers (defScope s_l_numbers) := ⟨rfl, rfl, rfl, by decide +kernel, rfl, by decide +kernel, by decide +kernel⟩
abbrev s_l_market : Stmt := top 43
abbrev n_l_market : List Str := ["_law_row", "_law_most", "_law_covers_here"]
abbrev p_l_market : List Str := ["_law_row", "_law_most"]
theorem sc_l_market : FnScope n_l_market p_l_market (defScope s_l_market) := ⟨rfl, rfl, rfl, by decide +kernel, rfl, by decide +kernel, by decide +kernel⟩
abbrev s_l_lots : Stmt := top 44
abbrev n_l_lots : List Str := ["_law_many", "_law_found", "_law_block", "_law_lot", "_law_size"]
abbrev p_l_lots : List Str := ["_law_many"]
theorem sc_l_lots : FnScope n_l_lots p_l_lots (defScope s_l_lots) := ⟨rfl, rfl, rfl, by decide +kernel, rfl, by decide +kernel, by decide +kernel⟩
abbrev s_l_low : Stmt := top 45
abbrev n_l_low : List Str := ["_law_above", "_law_beneath", "_law_one", "_law_other"]
abbrev p_l_low : List Str := ["_law_above", "_law_beneath"]
theorem sc_l_low : FnScope n_l_low p_l_low (defScope s_l_low) := ⟨rfl, rfl, rfl, by decide +kernel, rfl, by decide +kernel, by decide +kernel⟩
abbrev s_l_price : Stmt := top 46
abbrev n_l_price : List Str := ["_law_row", "_law_way", "_law_above", "_law_beneath"]
abbrev p_l_price : List Str := ["_law_row"]
theorem sc_l_price : FnScope n_l_price p_l_price (defScope s_l_price) := ⟨rfl, rfl, rfl, by decide +kernel, rfl, by decide +kernel, by decide +kernel⟩
abbrev s_l_at : Stmt := top 47
abbrev n_l_at : List Str := ["_law_gains", "_law_costs", "_law_price_here", "_law_k"]
abbrev p_l_at : List Str := ["_law_gains", "_law_costs", "_law_price_here"]
theorem sc_l_at : FnScope n_l_at p_l_at (defScope s_l_at) := ⟨rfl, rfl, rfl, by decide +kernel, rfl, by decide +kernel, by decide +kernel⟩
abbrev s_l_is_pit : Stmt := top 48
abbrev n_l_is_pit : List Str := ["_law_covers_here", "_law_lot", "_law_block", "_law_one"]
abbrev p_l_is_pit : List Str := ["_law_covers_here", "_law_lot"]
theorem sc_l_is_pit : FnScope n_l_is_pit p_l_is_pit (defScope s_l_is_pit) := ⟨rfl, rfl, rfl, by decide +kernel, rfl, by decide +kernel, by decide +kernel⟩
abbrev s_l_pits : Stmt := top 49
abbrev n_l_pits : List Str := ["_law_covers_here", "_law_lot"]
abbrev p_l_pits : List Str := ["_law_covers_here"]
theorem sc_l_pits : FnScope n_l_pits p_l_pits (defScope s_l_pits) := ⟨rfl, rfl, rfl, by decide +kernel, rfl, by decide +kernel, by decide +kernel⟩
abbrev s_l_sum : Stmt := top 50
abbrev n_l_sum : List Str := ["_law_worths", "_law_lot", "_law_block"]
abbrev p_l_sum : List Str := ["_law_worths", "_law_lot"]
theorem sc_l_sum : FnScope n_l_sum p_l_sum (defScope s_l_sum) := ⟨rfl, rfl, rfl, by decide +kernel, rfl, by decide +kernel, by decide +kernel⟩
abbrev s_l_best : Stmt := top 51
abbrev n_l_best : List Str := ["_law_covers_here", "_law_worths", "_law_some", "_law_most", "_law_pit"]
abbrev p_l_best : List Str := ["_law_covers_here", "_law_worths"]
theorem sc_l_best : FnScope n_l_best p_l_best (defScope s_l_best) := ⟨rfl, rfl, rfl, by decide +kernel, rfl, by decide +kernel, by decide +kernel⟩
abbrev s_l_alike : Stmt := top 52
abbrev n_l_alike : List Str := ["_law_found", "_law_due", "_law_k"]
abbrev p_l_alike : List Str := ["_law_found", "_law_due"]
theorem sc_l_alike : FnScope n_l_alike p_l_alike (defScope s_l_alike) := ⟨rfl, rfl, rfl, by decide +kernel, rfl, by decide +kernel, by decide +kernel⟩
abbrev s_l_pick : Stmt := top 53
abbrev n_l_pick : List Str := ["_law_row", "_law_things"]
abbrev p_l_pick : List Str := ["_law_row", "_law_things"]
theorem sc_l_pick : FnScope n_l_pick p_l_pick (defScope s_l_pick) := ⟨rfl, rfl, rfl, by decide +kernel, rfl, by decide +kernel, by decide +kernel⟩
abbrev s_l_law : Stmt := top 54
abbrev n_l_law : List Str := ["_law_script", "_law_row", "_law_covers_here", "_law_gains", "_law_costs", "_law_ground", "_law_lots_here", "_law_turn", "_law_price_here", "_law_worths", "_law_some", "_law_due", "_law_again", "_law_lot"]
abbrev p_l_law : List Str := ["_law_script"]
theorem sc_l_law : FnScope n_l_law p_l_law (defScope s_l_law) := ⟨rfl, rfl, rfl, by decide +kernel, rfl, by decide +kernel, by decide +kernel⟩
/-- where the top has laid each def, and its function object -/
structure Lay where
  C : Addr
  a_is_from : Addr
  d_is_from : FuncData
  a_rises : Addr
  d_rises : FuncData
  a_is_cover : Addr
  d_is_cover : FuncData
  a_ginit : Addr
  d_ginit : FuncData
  a_glen : Addr
  d_glen : FuncData
  a_need_ground : Addr
  d_need_ground : FuncData
  a_is_block : Addr
  d_is_block : FuncData
  a_is_lot : Addr
  d_is_lot : FuncData
  a_need_lot : Addr
  d_need_lot : FuncData
  a_sized : Addr
  d_sized : FuncData
  a_pits_of : Addr
  d_pits_of : FuncData
  a_sum_of : Addr
  d_sum_of : FuncData
  a_greatest_of : Addr
  d_greatest_of : FuncData
  a_best_pits : Addr
  d_best_pits : FuncData
  a_common : Addr
  d_common : FuncData
  a_lowest : Addr
  d_lowest : FuncData
  a_are_from : Addr
  d_are_from : FuncData
  a_need_both : Addr
  d_need_both : FuncData
  a_is_price : Addr
  d_is_price : FuncData
  a_need_price : Addr
  d_need_price : FuncData
  a_worths_by : Addr
  d_worths_by : FuncData
  a_worth_at : Addr
  d_worth_at : FuncData
  a_best_by : Addr
  d_best_by : FuncData
  a_best_at : Addr
  d_best_at : FuncData
  a_l_taken : Addr
  d_l_taken : FuncData
  a_l_covers : Addr
  d_l_covers : FuncData
  a_l_numbers : Addr
  d_l_numbers : FuncData
  a_l_market : Addr
  d_l_market : FuncData
  a_l_lots : Addr
  d_l_lots : FuncData
  a_l_low : Addr
  d_l_low : FuncData
  a_l_price : Addr
  d_l_price : FuncData
  a_l_at : Addr
  d_l_at : FuncData
  a_l_is_pit : Addr
  d_l_is_pit : FuncData
  a_l_pits : Addr
  d_l_pits : FuncData
  a_l_sum : Addr
  d_l_sum : FuncData
  a_l_best : Addr
  d_l_best : FuncData
  a_l_alike : Addr
  d_l_alike : FuncData
  a_l_pick : Addr
  d_l_pick : FuncData
  a_l_law : Addr
  d_l_law : FuncData
/-- a def of the module as its callers need it -/
structure Df (K : PySem.W.Frag) (mg : Str → Option Value) (x : Str) (st : Stmt) (ps : List Str) (f : Addr) (fd : FuncData) : Prop where
  F : Fun K x x st f fd
  b : Binds K fd ps []
  m : mg x = some (.ref f)
structure Txt (K : PySem.W.Frag) (mg : Str → Option Value) (e : Lay) : Prop where
  no_isinstance : mg "isinstance" = none
  no_int : mg "int" = none
  no_bool : mg "bool" = none
  no_tuple : mg "tuple" = none
  no_list : mg "list" = none
  no_str : mg "str" = none
  no_len : mg "len" = none
  no_all : mg "all" = none
  no_range : mg "range" = none
  no_enumerate : mg "enumerate" = none
  no_sorted : mg "sorted" = none
  no_sum : mg "sum" = none
  no_max : mg "max" = none
  no_min : mg "min" = none
  no_abs : mg "abs" = none
  no_zip : mg "zip" = none
  c_MOST_BLOCKS : ∃ t, mg "MOST_BLOCKS" = some (.int 10 t)
  c_MOST_GAIN : ∃ t, mg "MOST_GAIN" = some (.int 9 t)
  c_MOST_COST : ∃ t, mg "MOST_COST" = some (.int 50 t)
  c_MOST_PRICE : ∃ t, mg "MOST_PRICE" = some (.int 1000000 t)
  is_from : Df K mg "is_from" s_is_from p_is_from e.a_is_from e.d_is_from
  rises : Df K mg "rises" s_rises p_rises e.a_rises e.d_rises
  is_cover : Df K mg "is_cover" s_is_cover p_is_cover e.a_is_cover e.d_is_cover
  ginit : Fun K "__init__" "Ground.__init__" s_ginit e.a_ginit e.d_ginit
  b_ginit : Binds K e.d_ginit p_ginit []
  glen : Fun K "__len__" "Ground.__len__" s_glen e.a_glen e.d_glen
  b_glen : Binds K e.d_glen p_glen []
  need_ground : Df K mg "need_ground" s_need_ground p_need_ground e.a_need_ground e.d_need_ground
  is_block : Df K mg "is_block" s_is_block p_is_block e.a_is_block e.d_is_block
  is_lot : Df K mg "is_lot" s_is_lot p_is_lot e.a_is_lot e.d_is_lot
  need_lot : Df K mg "need_lot" s_need_lot p_need_lot e.a_need_lot e.d_need_lot
  sized : Df K mg "sized" s_sized p_sized e.a_sized e.d_sized
  pits_of : Df K mg "pits_of" s_pits_of p_pits_of e.a_pits_of e.d_pits_of
  sum_of : Df K mg "sum_of" s_sum_of p_sum_of e.a_sum_of e.d_sum_of
  greatest_of : Df K mg "greatest_of" s_greatest_of p_greatest_of e.a_greatest_of e.d_greatest_of
  best_pits : Df K mg "best_pits" s_best_pits p_best_pits e.a_best_pits e.d_best_pits
  common : Df K mg "common" s_common p_common e.a_common e.d_common
  lowest : Df K mg "lowest" s_lowest p_lowest e.a_lowest e.d_lowest
  are_from : Df K mg "are_from" s_are_from p_are_from e.a_are_from e.d_are_from
  need_both : Df K mg "need_both" s_need_both p_need_both e.a_need_both e.d_need_both
  is_price : Df K mg "is_price" s_is_price p_is_price e.a_is_price e.d_is_price
  need_price : Df K mg "need_price" s_need_price p_need_price e.a_need_price e.d_need_price
  worths_by : Df K mg "worths_by" s_worths_by p_worths_by e.a_worths_by e.d_worths_by
  worth_at : Df K mg "worth_at" s_worth_at p_worth_at e.a_worth_at e.d_worth_at
  best_by : Df K mg "best_by" s_best_by p_best_by e.a_best_by e.d_best_by
  best_at : Df K mg "best_at" s_best_at p_best_at e.a_best_at e.d_best_at
  l_taken : Df K mg "_law_taken" s_l_taken p_l_taken e.a_l_taken e.d_l_taken
  l_covers : Df K mg "_law_covers" s_l_covers p_l_covers e.a_l_covers e.d_l_covers
  l_numbers : Df K mg "_law_numbers" s_l_numbers p_l_numbers e.a_l_numbers e.d_l_numbers
  l_market : Df K mg "_law_market" s_l_market p_l_market e.a_l_market e.d_l_market
  l_lots : Df K mg "_law_lots" s_l_lots p_l_lots e.a_l_lots e.d_l_lots
  l_low : Df K mg "_law_low" s_l_low p_l_low e.a_l_low e.d_l_low
  l_price : Df K mg "_law_price" s_l_price p_l_price e.a_l_price e.d_l_price
  l_at : Df K mg "_law_at" s_l_at p_l_at e.a_l_at e.d_l_at
  l_is_pit : Df K mg "_law_is_pit" s_l_is_pit p_l_is_pit e.a_l_is_pit e.d_l_is_pit
  l_pits : Df K mg "_law_pits" s_l_pits p_l_pits e.a_l_pits e.d_l_pits
  l_sum : Df K mg "_law_sum" s_l_sum p_l_sum e.a_l_sum e.d_l_sum
  l_best : Df K mg "_law_best" s_l_best p_l_best e.a_l_best e.d_l_best
  l_alike : Df K mg "_law_alike" s_l_alike p_l_alike e.a_l_alike e.d_l_alike
  l_pick : Df K mg "_law_pick" s_l_pick p_l_pick e.a_l_pick e.d_l_pick
  l_law : Df K mg "law" s_l_law p_l_law e.a_l_law e.d_l_law
  cl : Cls K e.C
  mkC : Mk K e.C e.a_ginit
  mgC : mg "Ground" = some (.ref e.C)
  nT : NoAttr K e.C "table"
  lenAt : PySem.W.findIn K (.ref e.C) "__len__" = some (some (.ref e.a_glen))
  lenFn : PySem.W.isFn K (.ref e.a_glen) = true
  lenKp : PySem.W.keepIn K (.ref e.a_glen) = true
  clsA : PySem.W.findIn K (.ref e.C) "__class__" = some (some (.builtin "object.__class__"))
  clsN : PySem.W.specialIn K (.builtin "object.__class__") "__get__" = some (some (.builtin "getset_descriptor.__get__"))
  clsT : PySem.W.takesIn K (.builtin "object.__class__") = some true
  clsM : PySem.W.mroIn K e.C (.type "object") = some true
end Pk
namespace Pk
open PySem PySem.Spec PyProof.Rows L2
theorem reads_ints {h : Heap} : ∀ {l : List Int} {us : List Value}, Vals (iv l) us → ReadsAll h us (l.map PyData.int) []
  | [], _, .nil => .nil
  | n :: l, _, .cons r t => by
    obtain ⟨k, rfl⟩ := r
    exact .cons (as := []) (bs := []) (.int n k) (reads_ints t)
theorem sized_key {P : Program} {w : World} {K : PySem.W.Frag} {mg : Str → Option Value} {base : Heap} {e : Lay} (T : Txt K mg e) : Mod K mg base → KeyDef P w K base e.a_sized := by
  intro M A s a l us KX kb hh hd rl hz ht
  obtain ⟨⟨oc, od, kV, doc, pm, an, cdv, ct, osl, efd, lk, hcd⟩, _⟩ := T.sized.F
  rw [efd] at lk
  have len := rl.length
  refine wpAny_call (Att.call_fn (binds := [("lot", .ref a)]) KX (M.nolimit.keeps kb) lk hcd (by omega) (.of_eq rfl) rfl (fun s1 x => ?_) rfl rfl rfl)
  obtain ⟨h1, tk, e1⟩ := x.toInCall.same
  have keep : ∀ b o, s.heap.get? b = some o → h1.get? b = some o := fun b o q => by
    have z := x.toInCall.keep b o q
    rw [e1] at z
    exact z
  subst e1
  have kt : IsTup h1 a us.toArray := let ⟨o, ho, hc⟩ := ht; ⟨o, keep a o ho, hc⟩
  have hlot : ∀ {A' : Around} {E : Value → Shared → Prop} {Q : Value → Shared → Prop} {p : Pos} {t : Nat}, Q (.ref a) { s with heap := h1, toks := t } →
      wpAny (model P w) A' (eval (.Name "lot" p) (envOfC "sized" (defScope s_sized) s.heap.objs.size e.a_sized cdv)) Q E { s with heap := h1, toks := t } := fun q =>
    wpAny_Name (wpAny_loadName_local rfl rfl x.toInCall.ns rfl q) (by decide)
  obtain ⟨mb, hb1, hb2⟩ := M.blt
  refine wpAny_execs_cons (wpAny_Return_some (wpAny_Tuple_spliced ?_))
  refine Calls.spliced_cons ?_
  refine wpAny_Call_Name_kw (Calls.Name_function_global rfl rfl (Calls.loadGlobal_builtin ((M.glob.keeps kb).keeps keep) T.no_len ((hb1.keeps kb).keeps keep) ((hb2 "len" (by decide)).trans PySem.boot_len) ?_) (by decide))
  refine PyProof.Rows.callWith_builtin1 ?_ rfl rfl
  refine Calls.spliced_cons (hlot (Calls.spliced_nil ?_))
  refine len_tuple kt (by rw [List.size_toArray, ← len, List.length_map]; have := line63; rw [← len, List.length_map] at hz; omega) ?_
  refine Calls.spliced_cons (hlot (Calls.spliced_nil ⟨by show 2 ≤ sizeLine; decide, ?_⟩))
  refine ⟨_, _, rfl, fun b o q => Heap.get?_push_of_some _ (keep b o q), ?_⟩
  have hR : Reads (h1.push { cls := .type "tuple", data := .seq #[.int (us.toArray.size : Int) (tk + 1), .ref a] }) (.ref h1.objs.size) (skey l) [] := by
    obtain ⟨o, ho, hc, n, hdt⟩ := kt
    refine .tuple (as := []) (Heap.get?_push_size _ rfl) rfl rfl ?_
    refine .cons (as := []) (bs := []) ?_ (.cons (as := []) (bs := []) ?_ .nil)
    · rw [List.size_toArray, ← len, List.length_map]
      exact .int _ _
    · exact .tuple (Heap.get?_push_of_some _ ho) hc hdt (reads_ints rl)
  exact hR
end Pk
namespace Pk
open PySem PySem.Spec PyProof.Rows L2
theorem bt_isinstance : bootBuiltins "isinstance" = some (.builtin "isinstance") := by decide +kernel
theorem bt_int : bootBuiltins "int" = some (.type "int") := by decide +kernel
theorem bt_bool : bootBuiltins "bool" = some (.type "bool") := by decide +kernel
theorem bt_tuple : bootBuiltins "tuple" = some (.type "tuple") := by decide +kernel
theorem bt_list : bootBuiltins "list" = some (.type "list") := by decide +kernel
theorem bt_str : bootBuiltins "str" = some (.type "str") := by decide +kernel
theorem bt_all : bootBuiltins "all" = some (.builtin "all") := by decide +kernel
theorem bt_sorted : bootBuiltins "sorted" = some (.builtin "sorted") := by decide +kernel
theorem bt_sum : bootBuiltins "sum" = some (.builtin "sum") := by decide +kernel
theorem bt_max : bootBuiltins "max" = some (.builtin "max") := by decide +kernel
theorem bt_min : bootBuiltins "min" = some (.builtin "min") := by decide +kernel
theorem bt_abs : bootBuiltins "abs" = some (.builtin "abs") := by decide +kernel
theorem ki_ii {K : PySem.W.Frag} : PySem.W.kitOne K (.type "int") (.type "int") = some true := kit_ty (by decide +kernel)
theorem ki_ib {K : PySem.W.Frag} : PySem.W.kitOne K (.type "int") (.type "bool") = some false := kit_ty (by decide +kernel)
theorem ki_is {K : PySem.W.Frag} : PySem.W.kitOne K (.type "int") (.type "str") = some false := kit_ty (by decide +kernel)
theorem ki_it {K : PySem.W.Frag} : PySem.W.kitOne K (.type "int") (.type "tuple") = some false := kit_ty (by decide +kernel)
theorem ki_il {K : PySem.W.Frag} : PySem.W.kitOne K (.type "int") (.type "list") = some false := kit_ty (by decide +kernel)
theorem ki_tt {K : PySem.W.Frag} : PySem.W.kitOne K (.type "tuple") (.type "tuple") = some true := kit_ty (by decide +kernel)
theorem ki_tl {K : PySem.W.Frag} : PySem.W.kitOne K (.type "tuple") (.type "list") = some false := kit_ty (by decide +kernel)

/-! ### the rules that name the written part, within a comprehension's block -/
section
variable {X : Cx} (K : PySem.W.Frag)
theorem ixT (h : X.K = K := by rfl) : IxR X (rIxT K) := h ▸ ix_tup
theorem ixL (h : X.K = K := by rfl) : IxR X (rIxL K) := h ▸ ix_list
theorem inS (h : X.K = K := by rfl) : OpR X (compareOp .In) (rIn K false) := h ▸ op_in_seq
theorem ninS (h : X.K = K := by rfl) : OpR X (compareOp .NotIn) (rIn K true) := h ▸ op_notIn_seq
theorem lenS (h : X.K = K := by rfl) : CallR X (.builtin "len") (fun xs H Q => ∃ p ys, xs = [.ref p] ∧ (SqL K H p ys ∨ SqT K H p ys) ∧ Q (.int ys.length) H) := h ▸ call_len_seq
theorem allS (hc : X.calm = true) (h : X.K = K := by rfl) : CallR X (.builtin "all") (rAll K) := h ▸ cr_all hc
theorem piT {tg l : Expr} {tl : TE} (hl : PE X l tl) (h : X.K = K := by rfl) : PI X tg l (iTup K tl) := h ▸ pi_tup hl
theorem piL {tg l : Expr} {tl : TE} (hl : PE X l tl) (h : X.K = K := by rfl) : PI X tg l (iList K tl) := h ▸ pi_list hl
theorem catT (h : X.K = K := by rfl) : OpR X (binaryOp .Add) (rCatA K) := h ▸ op_catA
theorem neD (hu : X.A.units + 64 < cLine) (h : X.K = K := by rfl) : OpR X (compareOp .NotEq) (rNeD K) := h ▸ op_neD hu
theorem eqD (hu : X.A.units + 64 < cLine) (h : X.K = K := by rfl) : OpR X (compareOp .Eq) (rEqD K) := h ▸ op_eqD hu
theorem pgT {pos : Pos} {es : List Expr} {k : Nat} {t : TGs} {n : Nat} (hc : X.calm = true) (hg : PGs X es t) (hn : (assignEach es X.env).length = n := by rfl) (hst : (assignEach es X.env).findIdx? (·.1) = none := by rfl) (h : X.K = K := by rfl) :
    PG X (.Tuple es k pos) (gTup K n t) := h ▸ pg_tup hc hg hn hst
theorem paS {e : Expr} {es : List Expr} {te : TE} {t : TA} {p : Pos} (he : PE X e te) (hr : PA X es t) (hs : starEach (.Starred e p :: es) X.env = (true, eval e X.env) :: starEach es X.env := by rfl) (h : X.K = K := by rfl) :
    PA X (.Starred e p :: es) (StX.tStar K te t) := h ▸ StX.pa_star he hr hs
end
/-- a ground: an instance of the class at C whose table is the tuple at t -/
def Gr (C : Addr) (H : Hp) (g t : Addr) : Prop := ∃ dx, H g = some (.ins C dx [("table", .ref t)])
theorem Gr.same {C g t : Addr} {H H' : Hp} (h : Gr C H g t) (s : Same H H') : Gr C H' g t := by
  obtain ⟨dx, h⟩ := h
  exact ⟨dx, s _ _ h⟩
theorem Gr.but {C g t r : Addr} {xs : List V} {H H' : Hp} (h : Gr C H g t) (hr : H r = some (.lst xs)) (s : But r H H') : Gr C H' g t := by
  obtain ⟨dx, h⟩ := h
  exact ⟨dx, s _ _ (ne_of h hr (by intro q; cases q)) h⟩
theorem table_at (t : Addr) : ([("table", V.ref t)] : List (Str × V)).lookup ("table" : Str) = some (.ref t) := by
  rw [List.lookup_cons_self]

/-! ### promises -/
def spIsFrom : Sp := fun vs H Q _ => ∃ v lo hi : Int, vs = [.int v, .int lo, .int hi] ∧ lo ≤ v ∧ v ≤ hi ∧ Q (.bl true) H
def spRises : Sp := fun vs H Q _ => ∃ (a : Addr) (ns : List Int), vs = [.ref a] ∧ TI H a ns ∧ ns.length ≤ 1000 ∧ ns.Pairwise (· < ·) ∧ ∀ H', Same H H' → Q (.bl true) H'
def spIsCover : Sp := fun vs H Q _ => ∃ (a : Addr) (ns : List Int) (b : Int), vs = [.ref a, .int b] ∧ TI H a ns ∧ ns.length ≤ 1000 ∧ ns.Pairwise (· < ·) ∧ (∀ o ∈ ns, 0 ≤ o ∧ o < b) ∧ ∀ H', Same H H' → Q (.bl true) H'
def spInit (C : Addr) : Sp := fun vs H Q _ => ∃ (g dx t : Addr) (cov : List (List Int)), vs = [.ref g, .ref t] ∧ H g = some (.ins C dx []) ∧ TT H t cov ∧ Good cov ∧
  ∀ H', But g H H' → Gr C H' g t → Q .non H'
def spLen (C : Addr) : Sp := fun vs H Q _ => ∃ (g t : Addr) (cov : List (List Int)), vs = [.ref g] ∧ Gr C H g t ∧ TT H t cov ∧ Q (.int (cov.length : Int)) H
def spNeedG (C : Addr) : Sp := fun vs H Q _ => ∃ (g t : Addr), vs = [.ref g] ∧ Gr C H g t ∧ Q .non H
def spIsBlock (C : Addr) : Sp := fun vs H Q _ => ∃ (g t : Addr) (cov : List (List Int)) (b : Int), vs = [.ref g, .int b] ∧ Gr C H g t ∧ TT H t cov ∧ cov.length ≤ 1000 ∧ 0 ≤ b ∧ b < (cov.length : Int) ∧ Q (.bl true) H
def spIsLot (C : Addr) : Sp := fun vs H Q _ => ∃ (g t a : Addr) (cov : List (List Int)) (l : List Int), vs = [.ref g, .ref a] ∧ Gr C H g t ∧ TT H t cov ∧ cov.length ≤ 1000 ∧ TI H a l ∧ l.length ≤ 1000 ∧ l.Pairwise (· < ·) ∧ (∀ b ∈ l, 0 ≤ b ∧ b < (cov.length : Int)) ∧ ∀ H', Same H H' → Q (.bl true) H'
def spNeedLot (C : Addr) : Sp := fun vs H Q _ => ∃ (g t a : Addr) (cov : List (List Int)) (l : List Int), vs = [.ref g, .ref a] ∧ Gr C H g t ∧ TT H t cov ∧ cov.length ≤ 1000 ∧ TI H a l ∧ l.length ≤ 1000 ∧ l.Pairwise (· < ·) ∧ (∀ b ∈ l, 0 ≤ b ∧ b < (cov.length : Int)) ∧ ∀ H', Same H H' → Q .non H'

section
variable {P : Program} {w : World} {K : PySem.W.Frag} {mg : Str → Option Value} {base : Heap} {e : Lay}

theorem ok_is_from (T : Txt K mg e) : FnOk P w K mg base CX0 1 e.a_is_from e.d_is_from p_is_from spIsFrom := by
  refine T.is_from.F.ok sc_is_from (fun vs H Q E h => ?_) (fun cdv A outer s H vs Q E hr h => ?_)
  · obtain ⟨v, lo, hi, rfl, _⟩ := h
    rfl
  · obtain ⟨v, lo, hi, rfl, h1, h2, k⟩ := h
    refine ⟨_, pss_one (ps_ret (pe_and (pe_callB call_isi (by rfl) T.no_isinstance bt_isinstance (pa_cons (pv 0) (pa_cons (pe_bltn (v := .ty "int") (by rfl) T.no_int bt_int rfl) pa_nil)))
      (pe_and (pe_not (pe_callB call_isi (by rfl) T.no_isinstance bt_isinstance (pa_cons (pv 0) (pa_cons (pe_bltn (v := .ty "bool") (by rfl) T.no_bool bt_bool rfl) pa_nil))))
      (pe_one (pe_chain op_le op_le (pv 1) (pv 0) (pv 2)))))), ?_⟩
    refine ⟨_, rfl, .int v, .ty "int", _, _, true, rfl, .ty "int", .base (.int v), ki_ii, true, rfl, iteT ?_⟩
    refine ⟨_, rfl, .int v, .ty "bool", _, _, false, rfl, .ty "bool", .base (.int v), ki_ib, false, rfl, true, rfl, iteT ?_⟩
    refine ⟨_, rfl, _, rfl, _, _, rfl, rfl, _, rfl, ?_⟩
    rw [decide_eq_true h1]
    refine iteT ⟨_, rfl, _, _, rfl, rfl, ?_⟩
    show Q (.bl (decide (v ≤ hi))) H
    rw [decide_eq_true h2]
    exact k

theorem ok_rises (T : Txt K mg e) : FnOk P w K mg base CX0 1 e.a_rises e.d_rises p_rises spRises := by
  refine T.rises.F.ok sc_rises (fun vs H Q E h => ?_) (fun cdv A outer s H vs Q E hr h => ?_)
  · obtain ⟨a, ns, rfl, _⟩ := h
    rfl
  · obtain ⟨a, ns, rfl, ht, hl, hp, k⟩ := h
    refine ⟨_, pss_one (ps_ret (pe_callB (cr_all rfl) (by rfl) T.no_all bt_all (pa_cons
      (pe_lc (own := [("at", 1)]) (g := gName 1) (tt := tYes) rfl sc_rises.nd (pi_range2 (by rfl) T.no_range (pa_cons pe_int (pa_cons (pe_callB call_len_seq (by rfl) T.no_len PySem.boot_len (pa_cons (pv 0) pa_nil)) pa_nil)))
        (blkOk_by (N := n_rises) (sc := defScope s_rises) (by decide +kernel)) (fun _ _ _ _ _ => pg_name (i := 1) sc_rises.nd rfl (Or.inl rfl)) (fun _ _ _ _ _ => pts_nil)
        (fun _ _ _ _ _ => pe_cmpR op_lt (pe_ix (ixT K) (pv 0) (pe_op op_sub (pv 1) pe_int) (fun _ _ => rfl)) (pe_ix (ixT K) (pv 0) (pv 1) (fun _ _ => rfl)) (nomark _))) pa_nil))), ?_⟩
    refine ⟨_, rfl, a, _, rfl, .inr ht.sq, _, _, rfl, ⟨by decide, by decide, by rw [List.length_map]; omega, by rw [List.length_map]; omega⟩, fun D hD => ?_⟩
    refine lc_range (lo := 1) (n := ((((iv ns).length : Nat) : Int) - 1).toNat) (fun i H' => Same H H' ∧ H' D = some (.lst ((List.replicate i true).map V.bl))) ⟨same_new hD, upd_same⟩ ?_ ?_
    · rintro i H' hi ⟨s1, h1⟩
      rw [List.length_map] at hi
      have hx : ns[i]? = some ns[i] := List.getElem?_eq_getElem (by omega)
      have hy : ns[i + 1]? = some ns[i + 1] := List.getElem?_eq_getElem (by omega)
      refine ⟨rfl, ?_⟩
      refine ⟨_, rfl, _, rfl, _, _, rfl, rfl, a, _, _, _, rfl, rfl, (ht.same s1).sq, int_at (j := i) (by omega) hx, ?_⟩
      refine ⟨_, rfl, _, rfl, a, _, _, _, rfl, rfl, (ht.same s1).sq, int_at (j := i + 1) (by omega) hy, _, _, rfl, rfl, ?_⟩
      refine ⟨_, h1, lt_line (by rw [List.length_map, List.length_replicate]; omega), same_upd s1 hD, ?_⟩
      rw [upd_same, List.replicate_succ', List.map_append]
      show some (HO.lst (_ ++ [V.bl (decide (ns[i] < ns[i + 1]))])) = _
      rw [decide_eq_true (asc_at hp hx hy)]
      rfl
    · rintro H' ⟨s1, h1⟩
      refine ⟨D, _, rfl, SqL.of h1, ?_⟩
      have e1 : (List.replicate ((((iv ns).length : Nat) : Int) - 1).toNat true).all id = true := List.all_eq_true.mpr fun b hb => (List.mem_replicate.mp hb).2
      rw [e1]
      exact k _ s1

theorem ok_is_cover (T : Txt K mg e) : FnOk P w K mg base CX0 2 e.a_is_cover e.d_is_cover p_is_cover spIsCover := by
  refine T.is_cover.F.ok sc_is_cover (fun vs H Q E h => ?_) (fun cdv A outer s H vs Q E hr h => ?_)
  · obtain ⟨a, ns, b, rfl, _⟩ := h
    rfl
  · obtain ⟨a, ns, b, rfl, ht, hl, hp, hb, k⟩ := h
    refine ⟨_, pss_one (ps_ret (pe_and (pe_callB call_isi (by rfl) T.no_isinstance bt_isinstance (pa_cons (pv 0) (pa_cons (pe_bltn (v := .ty "tuple") (by rfl) T.no_tuple bt_tuple rfl) pa_nil)))
      (pe_and (pe_callB (allS K rfl) (by rfl) T.no_all bt_all (pa_cons
        (pe_lc (own := [("one", 2)]) (g := gName 2) (tt := tYes) rfl sc_is_cover.nd (piT K (pv 0))
          (blkOk_by (N := n_is_cover) (sc := defScope s_is_cover) (by decide +kernel)) (fun _ _ _ _ _ => pg_name (i := 2) sc_is_cover.nd rfl (Or.inl rfl)) (fun _ _ _ _ _ => pts_nil)
          (fun _ _ _ _ _ => pe_call (ok_is_from T) hr rfl T.is_from.m T.is_from.F.kp T.is_from.b .nil pass0 (pa_cons (pv 2) (pa_cons pe_int (pa_cons (pe_op op_sub (pv 1) pe_int) pa_nil))))) pa_nil))
      (pe_one (pe_call (ok_rises T) hr rfl T.rises.m T.rises.F.kp T.rises.b .nil pass0 (pa_cons (pv 0) pa_nil)))))), ?_⟩
    refine ⟨_, rfl, .ref a, .ty "tuple", _, _, true, rfl, .ty "tuple", .base (.tup ht), ki_tt, true, rfl, iteT ?_⟩
    refine ⟨_, rfl, a, rfl, ⟨_, ht.sq⟩, fun D hD => ?_⟩
    refine lc_tup (K := K) (a := a) (xs := iv ns) (fun i H' => Same H H' ∧ H' D = some (.lst ((List.replicate i true).map V.bl))) ⟨same_new hD, upd_same⟩ (fun i H' _ ⟨s1, _⟩ => (ht.same s1).sq) ?_ ?_
    · rintro i x H' hx ⟨s1, h1⟩
      obtain ⟨o, ho, rfl⟩ := iv_at hx
      have hi := (List.getElem?_eq_some_iff.mp ho).1
      have hm := hb o (List.mem_of_getElem? ho)
      refine ⟨rfl, ?_⟩
      refine ⟨_, rfl, _, rfl, _, _, rfl, rfl, _, _, _, rfl, hm.1, Int.le_sub_one_of_lt hm.2, ?_⟩
      refine ⟨_, h1, lt_line (by rw [List.length_map, List.length_replicate]; omega), same_upd s1 hD, ?_⟩
      rw [upd_same, List.replicate_succ', List.map_append]
      rfl
    · rintro H' ⟨s1, h1⟩
      refine ⟨D, _, rfl, SqL.of h1, ?_⟩
      have e1 : (List.replicate (iv ns).length true).all id = true := List.all_eq_true.mpr fun b hb => (List.mem_replicate.mp hb).2
      rw [e1]
      refine ⟨true, rfl, iteT ?_⟩
      exact ⟨_, rfl, a, ns, rfl, ht.same s1, hl, hp, fun H2 s2 => k _ (s1.trans s2)⟩
end
end Pk
namespace Pk
open PySem PySem.Spec PyProof.Rows L2
theorem ki_own {K : PySem.W.Frag} (C : Addr) : PySem.W.kitOne K (.ref C) (.ref C) = some true := by
  have h : (Value.ref C == Value.ref C) = true := by first | exact beq_self_eq_true _ | rfl | simp
  unfold PySem.W.kitOne
  rw [if_pos h]
section
variable {P : Program} {w : World} {K : PySem.W.Frag} {mg : Str → Option Value} {base : Heap} {e : Lay}
theorem ok_glen (T : Txt K mg e) : FnOk P w K mg base CX0 1 e.a_glen e.d_glen p_glen (spLen e.C) := by
  refine T.glen.ok sc_glen (fun vs H Q E h => ?_) (fun cdv A outer s H vs Q E hr h => ?_)
  · obtain ⟨g, t, cov, rfl, _⟩ := h
    rfl
  · obtain ⟨g, t, cov, rfl, ⟨dx, hg⟩, ⟨as, h1, h2⟩, k⟩ := h
    refine ⟨_, pss_one (ps_ret (pe_callB call_len_seq (by rfl) T.no_len PySem.boot_len (pa_cons (pe_fld (pv 0) rfl) pa_nil))), ?_⟩
    refine ⟨_, rfl, g, e.C, dx, _, _, rfl, hg, T.cl, T.nT, table_at t, t, _, rfl, .inr (SqT.of h1), ?_⟩
    show Q (.int ((as.map V.ref).length : Nat)) H
    rw [List.length_map, paired_len h2]
    exact k
theorem ok_ginit (T : Txt K mg e) : FnOk P w K mg base CX0 3 e.a_ginit e.d_ginit p_ginit (spInit e.C) := by
  refine T.ginit.ok sc_ginit (fun vs H Q E h => ?_) (fun cdv A outer s H vs Q E hr h => ?_)
  · obtain ⟨g, dx, t, cov, rfl, _⟩ := h
    rfl
  · obtain ⟨g, dx, t, cov, rfl, hg, ⟨as, h1, h2⟩, hc, k⟩ := h
    obtain ⟨tb, mb⟩ := T.c_MOST_BLOCKS
    have el := paired_len h2
    refine ⟨_, pss_cons (ps_if (PW.pt (pw_or (pt_not (pt_val (pe_callB call_isi (by rfl) T.no_isinstance bt_isinstance (pa_cons (pv 1) (pa_cons (pe_bltn (v := .ty "tuple") (by rfl) T.no_tuple bt_tuple rfl) pa_nil)))))
        (pw_or1 (pt_not (pt_chain op_le op_le pe_int (pe_callB call_len_seq (by rfl) T.no_len PySem.boot_len (pa_cons (pv 1) pa_nil)) (pe_glob (v := .int 10) (by rfl) mb ⟨_, rfl⟩)))))) pss_never pss_nil)
      (pss_cons (ps_for PassesOwn.never rfl (pi_enumT (by rfl) T.no_enumerate (pa_cons (pv 1) pa_nil)) (pg_tup (by rfl) (pgs_cons (pg_name (i := 2) sc_ginit.nd rfl (.inl rfl)) (pgs_cons (pg_name (i := 3) sc_ginit.nd rfl (.inl rfl)) pgs_nil)))
        (pss_one (ps_if (pt_not (pt_val (pe_call (ok_is_cover T) hr rfl T.is_cover.m T.is_cover.F.kp T.is_cover.b .nil pass0 (pa_cons (pv 3) (pa_cons (pv 2) pa_nil))))) pss_never pss_nil)))
      (pss_one (ps_fld (pv 0) (pv 1) rfl))), ?_⟩
    refine ⟨_, rfl, .ref t, .ty "tuple", _, _, true, rfl, .ty "tuple", .base (.tup h1), ki_tt, true, rfl, ?_⟩
    refine iteF ?_
    have hn := hc.n0
    have hm := hc.n1
    refine ⟨_, rfl, t, _, rfl, .inr (SqT.of h1), _, _, rfl, rfl, _, rfl, ?_⟩
    rw [decide_eq_true (show (1 : Int) ≤ (((as.map V.ref).length : Nat) : Int) by rw [List.length_map]; omega)]
    refine iteT ?_
    refine ⟨_, _, rfl, rfl, _, rfl, ?_⟩
    rw [decide_eq_true (show (((as.map V.ref).length : Nat) : Int) ≤ 10 by rw [List.length_map]; omega)]
    refine iteF ?_
    refine ⟨_, rfl, t, _, rfl, SqT.of h1, for_it (walk_enumT (K := K) (a := t) (xs := as.map V.ref)) (fun i σ H' => (∃ v2 v3, σ = [some (.ref g), some (.ref t), v2, v3]) ∧ Same H H') ⟨⟨_, _, rfl⟩, Same.refl H⟩ (fun i σ H' _ ⟨_, s1⟩ => SqT.of (s1 _ _ h1)) ?_ ?_⟩
    · rintro i x σ H' H2 hi ⟨⟨v2, v3, rfl⟩, s1⟩ ⟨q, x1, y1, rfl, hq, rfl, e1, e2⟩
      cases e1
      obtain ⟨a, ha, rfl⟩ := ref_at e2
      obtain ⟨ns, hns, hTI⟩ := paired_left h2 ha
      have hgood := hc.low i ns hns
      have s2 : Same H (upd H' q (.tup [.int (i : Nat), .ref a])) := s1.trans (same_new hq)
      refine ⟨q, _, rfl, SqT.of upd_same, rfl, _, _, rfl, _, _, rfl, rfl, ?_⟩
      refine ⟨_, rfl, _, rfl, a, ns, _, rfl, hTI.same s2, ?_, hc.asc ns (List.mem_of_getElem? hns), hgood, fun H3 s3 => ⟨true, rfl, ?_⟩⟩
      · have hl := len_of_low (hc.asc ns (List.mem_of_getElem? hns)) hgood
        have hic := (List.getElem?_eq_some_iff.mp hns).1
        omega
      · exact ⟨⟨_, _, rfl⟩, s2.trans s3⟩
    · rintro σ H' ⟨⟨v2, v3, rfl⟩, s1⟩
      refine ⟨_, rfl, _, rfl, g, e.C, dx, [], rfl, s1 _ _ hg, T.cl, T.nT, by decide, ?_⟩
      exact k _ (fun b o n q => by rw [upd_ne n]; exact s1 _ _ q) ⟨dx, upd_same⟩
theorem ok_need_ground (T : Txt K mg e) : FnOk P w K mg base CX0 1 e.a_need_ground e.d_need_ground p_need_ground (spNeedG e.C) := by
  refine T.need_ground.F.ok sc_need_ground (fun vs H Q E h => ?_) (fun cdv A outer s H vs Q E hr h => ?_)
  · obtain ⟨g, t, rfl, _⟩ := h
    rfl
  · obtain ⟨g, t, rfl, ⟨dx, hg⟩, k⟩ := h
    refine ⟨_, pss_one (ps_if (pt_not (pt_val (pe_callB call_isi (by rfl) T.no_isinstance bt_isinstance (pa_cons (pv 0) (pa_cons (pe_glob (v := .ref e.C) (by rfl) T.mgC rfl) pa_nil))))) pss_never pss_nil), ?_⟩
    refine ⟨_, rfl, .ref g, .ref e.C, _, _, true, rfl, .own _, .base (.ins hg T.cl T.clsA T.clsN T.clsT T.clsM), ki_own _, true, rfl, ?_⟩
    exact iteF k
theorem ok_is_block (T : Txt K mg e) : FnOk P w K mg base CX0 3 e.a_is_block e.d_is_block p_is_block (spIsBlock e.C) := by
  refine T.is_block.F.ok sc_is_block (fun vs H Q E h => ?_) (fun cdv A outer s H vs Q E hr h => ?_)
  · obtain ⟨g, t, cov, b, rfl, _⟩ := h
    rfl
  · obtain ⟨g, t, cov, b, rfl, ⟨dx, hg⟩, ht, hl, h0, h1, k⟩ := h
    refine ⟨_, pss_one (ps_ret (pe_call (ok_is_from T) (hr.mono (by decide)) rfl T.is_from.m T.is_from.F.kp T.is_from.b .nil pass0 (pa_cons (pv 1) (pa_cons pe_int (pa_cons
      (pe_op op_sub (pe_callB (call_lenO (ok_glen T) hr T.b_glen T.lenAt T.lenFn) (by rfl) T.no_len PySem.boot_len (pa_cons (pv 0) pa_nil)) pe_int) pa_nil))))), ?_⟩
    refine ⟨_, rfl, _, rfl, g, dx, _, rfl, hg, g, t, cov, rfl, ⟨dx, hg⟩, ht, cov.length, rfl, by omega, _, _, rfl, rfl, ?_⟩
    exact ⟨b, 0, _, rfl, h0, by omega, k⟩
theorem ok_is_lot (T : Txt K mg e) : FnOk P w K mg base CX0 4 e.a_is_lot e.d_is_lot p_is_lot (spIsLot e.C) := by
  refine T.is_lot.F.ok sc_is_lot (fun vs H Q E h => ?_) (fun cdv A outer s H vs Q E hr h => ?_)
  · obtain ⟨g, t, a, cov, l, rfl, _⟩ := h
    rfl
  · obtain ⟨g, t, a, cov, l, rfl, hg, ht, hcl, ha, hl, hp, hb, k⟩ := h
    refine ⟨_, pss_one (ps_ret (pe_and (pe_callB call_isi (by rfl) T.no_isinstance bt_isinstance (pa_cons (pv 1) (pa_cons (pe_bltn (v := .ty "tuple") (by rfl) T.no_tuple bt_tuple rfl) pa_nil)))
      (pe_and (pe_callB (allS K rfl) (by rfl) T.no_all bt_all (pa_cons
        (pe_lc (own := [("one", 2)]) (g := gName 2) (tt := tYes) rfl sc_is_lot.nd (piT K (pv 1))
          (blkOk_by (N := n_is_lot) (sc := defScope s_is_lot) (by decide +kernel)) (fun _ _ _ _ _ => pg_name (i := 2) sc_is_lot.nd rfl (Or.inl rfl)) (fun _ _ _ _ _ => pts_nil)
          (fun _ _ _ _ _ => pe_call (ok_is_block T) hr rfl T.is_block.m T.is_block.F.kp T.is_block.b .nil pass0 (pa_cons (pv 0) (pa_cons (pv 2) pa_nil)))) pa_nil))
      (pe_one (pe_call (ok_rises T) (hr.mono (by decide)) rfl T.rises.m T.rises.F.kp T.rises.b .nil pass0 (pa_cons (pv 1) pa_nil)))))), ?_⟩
    refine ⟨_, rfl, .ref a, .ty "tuple", _, _, true, rfl, .ty "tuple", .base (.tup ha), ki_tt, true, rfl, iteT ?_⟩
    refine ⟨_, rfl, a, rfl, ⟨_, ha.sq⟩, fun D hD => ?_⟩
    refine lc_tup (K := K) (a := a) (xs := iv l) (fun i H' => Same H H' ∧ H' D = some (.lst ((List.replicate i true).map V.bl))) ⟨same_new hD, upd_same⟩ (fun i H' _ ⟨s1, _⟩ => (ha.same s1).sq) ?_ ?_
    · rintro i x H' hx ⟨s1, h1⟩
      obtain ⟨o, ho, rfl⟩ := iv_at hx
      have hi := (List.getElem?_eq_some_iff.mp ho).1
      have hm := hb o (List.mem_of_getElem? ho)
      refine ⟨rfl, ?_⟩
      refine ⟨_, rfl, _, rfl, g, t, cov, o, rfl, hg.same s1, ht.same s1, hcl, hm.1, hm.2, ?_⟩
      refine ⟨_, h1, lt_line (by rw [List.length_map, List.length_replicate]; omega), same_upd s1 hD, ?_⟩
      rw [upd_same, List.replicate_succ', List.map_append]
      rfl
    · rintro H' ⟨s1, h1⟩
      refine ⟨D, _, rfl, SqL.of h1, ?_⟩
      have e1 : (List.replicate (iv l).length true).all id = true := List.all_eq_true.mpr fun b hb => (List.mem_replicate.mp hb).2
      rw [e1]
      refine ⟨true, rfl, iteT ?_⟩
      exact ⟨_, rfl, a, l, rfl, ha.same s1, hl, hp, fun H2 s2 => k _ (s1.trans s2)⟩
theorem ok_need_lot (T : Txt K mg e) : FnOk P w K mg base CX0 5 e.a_need_lot e.d_need_lot p_need_lot (spNeedLot e.C) := by
  refine T.need_lot.F.ok sc_need_lot (fun vs H Q E h => ?_) (fun cdv A outer s H vs Q E hr h => ?_)
  · obtain ⟨g, t, a, cov, l, rfl, _⟩ := h
    rfl
  · obtain ⟨g, t, a, cov, l, rfl, hg, ht, hcl, ha, hl, hp, hb, k⟩ := h
    refine ⟨_, pss_cons (ps_expr (pe_call (ok_need_ground T) (hr.mono (by decide)) rfl T.need_ground.m T.need_ground.F.kp T.need_ground.b .nil pass0 (pa_cons (pv 0) pa_nil)))
      (pss_one (ps_if (pt_not (pt_val (pe_call (ok_is_lot T) hr rfl T.is_lot.m T.is_lot.F.kp T.is_lot.b .nil pass0 (pa_cons (pv 0) (pa_cons (pv 1) pa_nil))))) pss_never pss_nil)), ?_⟩
    refine ⟨_, rfl, g, t, rfl, hg, ?_⟩
    refine ⟨_, rfl, _, rfl, g, t, a, cov, l, rfl, hg, ht, hcl, ha, hl, hp, hb, fun H' s1 => ⟨true, rfl, ?_⟩⟩
    exact iteF (k _ s1)
end
end Pk
namespace Pk
open PySem PySem.Spec PyProof.Rows L2
theorem take_snoc {α : Type} {xs : List α} {i : Nat} {x : α} (h : xs[i]? = some x) : xs.take (i + 1) = xs.take i ++ [x] := by
  rw [List.take_add_one, h]
  rfl
theorem contains_all (l : List Int) (ns : List Int) : ((ns.map fun o => l.contains o).all id) = ns.all fun o => l.contains o := by
  rw [List.all_map]
  rfl
/-- the item of a row of worths -/
theorem ws_at {ws : List Int} {o : Int} (h0 : 0 ≤ o) (h1 : o < (ws.length : Int)) : atI (iv ws) o = some (V.int (ws.getD o.toNat 0)) := by
  refine int_at (j := o.toNat) (by omega) ?_
  rw [List.getD_eq_getElem?_getD, List.getElem?_eq_getElem (by omega)]
  rfl
def OkLots (ws : List Int) (ls : List (List Int)) : Prop := ∀ l ∈ ls, l.length ≤ 1000 ∧ ∀ o ∈ l, 0 ≤ o ∧ o < (ws.length : Int)

def spSumOf : Sp := fun vs H Q _ => ∃ (a b : Addr) (ws l : List Int), vs = [.ref a, .ref b] ∧ TI H a ws ∧ TI H b l ∧ l.length ≤ 1000 ∧ (∀ o ∈ l, 0 ≤ o ∧ o < (ws.length : Int)) ∧ ∀ H', Same H H' → Q (.int (lotSum ws l)) H'
def spGreatest : Sp := fun vs H Q _ => ∃ (a b : Addr) (ws : List Int) (ls : List (List Int)), vs = [.ref a, .ref b] ∧ TI H a ws ∧ LT H b ls ∧ ls ≠ [] ∧ ls.length ≤ 1000 ∧ OkLots ws ls ∧ ∀ H', Same H H' → Q (.int (topOf (ls.map (lotSum ws)))) H'
def spPitsOf (C : Addr) : Sp := fun vs H Q _ => ∃ (g t : Addr) (cov : List (List Int)), vs = [.ref g] ∧ Gr C H g t ∧ TT H t cov ∧ Good cov ∧ ∀ H' p, Same H H' → LT H' p (srt (pitsN cov cov.length)) → Q (.ref p) H'
def spBestPits (C : Addr) : Sp := fun vs H Q _ => ∃ (g t a : Addr) (cov : List (List Int)) (ws : List Int), vs = [.ref g, .ref a] ∧ Gr C H g t ∧ TT H t cov ∧ Good cov ∧ TI H a ws ∧ ws.length = cov.length ∧
  ∀ H' p, Same H H' → LT H' p (bestOf ws (srt (pitsN cov cov.length))) → Q (.ref p) H'

section
variable {P : Program} {w : World} {K : PySem.W.Frag} {mg : Str → Option Value} {base : Heap} {e : Lay}
theorem ok_sum_of (T : Txt K mg e) : FnOk P w K mg base CX0 1 e.a_sum_of e.d_sum_of p_sum_of spSumOf := by
  refine T.sum_of.F.ok sc_sum_of (fun vs H Q E h => ?_) (fun cdv A outer s H vs Q E hr h => ?_)
  · obtain ⟨a, b, ws, l, rfl, _⟩ := h
    rfl
  · obtain ⟨a, b, ws, l, rfl, ha, hb, hl, ho, k⟩ := h
    refine ⟨_, pss_one (ps_ret (pe_callB (cr_sum rfl) (by rfl) T.no_sum bt_sum (pa_cons
      (pe_lc (own := [("block", 2)]) (g := gName 2) (tt := tYes) rfl sc_sum_of.nd (piT K (pv 1)) (blkOk_by (N := n_sum_of) (sc := defScope s_sum_of) (by decide +kernel))
        (fun _ _ _ _ _ => pg_name (i := 2) sc_sum_of.nd rfl (Or.inl rfl)) (fun _ _ _ _ _ => pts_nil) (fun _ _ _ _ _ => pe_ix (ixT K) (pv 0) (pv 2) (fun _ _ => rfl))) pa_nil))), ?_⟩
    refine ⟨_, rfl, b, rfl, ⟨_, hb.sq⟩, fun D hD => ?_⟩
    refine lc_tup (K := K) (a := b) (xs := iv l) (fun i H' => Same H H' ∧ H' D = some (.lst (iv ((l.take i).map fun b => ws.getD b.toNat 0)))) ⟨same_new hD, upd_same⟩ (fun i H' _ ⟨s1, _⟩ => (hb.same s1).sq) ?_ ?_
    · rintro i x H' hx ⟨s1, h1⟩
      obtain ⟨o, hm, rfl⟩ := iv_at hx
      have hi := (List.getElem?_eq_some_iff.mp hm).1
      have hq := ho o (List.mem_of_getElem? hm)
      refine ⟨rfl, ?_⟩
      refine ⟨_, rfl, _, rfl, a, _, _, _, rfl, rfl, (ha.same s1).sq, ws_at hq.1 hq.2, ?_⟩
      refine ⟨_, h1, lt_line (by rw [List.length_map, List.length_map, List.length_take]; omega), same_upd s1 hD, ?_⟩
      rw [upd_same, take_snoc hm, List.map_append, iv_append]
      rfl
    · rintro H' ⟨s1, h1⟩
      rw [List.length_map, List.take_length] at h1
      exact ⟨D, _, rfl, SqL.of h1, k _ s1⟩
theorem ok_greatest_of (T : Txt K mg e) : FnOk P w K mg base CX0 2 e.a_greatest_of e.d_greatest_of p_greatest_of spGreatest := by
  refine T.greatest_of.F.ok sc_greatest_of (fun vs H Q E h => ?_) (fun cdv A outer s H vs Q E hr h => ?_)
  · obtain ⟨a, b, ws, ls, rfl, _⟩ := h
    rfl
  · obtain ⟨a, b, ws, ls, rfl, ha, ⟨as, hb, hp⟩, hne, hl, ho, k⟩ := h
    refine ⟨_, pss_one (ps_ret (pe_callB (cr_max rfl) (by rfl) T.no_max bt_max (pa_cons
      (pe_lc (own := [("pit", 2)]) (g := gName 2) (tt := tYes) rfl sc_greatest_of.nd (piL K (pv 1)) (blkOk_by (N := n_greatest_of) (sc := defScope s_greatest_of) (by decide +kernel))
        (fun _ _ _ _ _ => pg_name (i := 2) sc_greatest_of.nd rfl (Or.inl rfl)) (fun _ _ _ _ _ => pts_nil)
        (fun _ _ _ _ _ => pe_call (ok_sum_of T) hr rfl T.sum_of.m T.sum_of.F.kp T.sum_of.b .nil pass0 (pa_cons (pv 0) (pa_cons (pv 2) pa_nil)))) pa_nil))), ?_⟩
    have el := paired_len hp
    refine ⟨_, rfl, b, rfl, ⟨_, SqL.of hb⟩, fun D hD => ?_⟩
    refine lc_list (K := K) (a := b) (xs := as.map V.ref) (fun i H' => Same H H' ∧ H' D = some (.lst (iv ((ls.take i).map (lotSum ws))))) ⟨same_new hD, upd_same⟩ (fun i H' _ ⟨s1, _⟩ => SqL.of (s1 _ _ hb)) ?_ ?_
    · rintro i x H' hx ⟨s1, h1⟩
      obtain ⟨c, hc, rfl⟩ := ref_at hx
      obtain ⟨l, hm, ht⟩ := paired_left hp hc
      have hi := (List.getElem?_eq_some_iff.mp hm).1
      have hq := ho l (List.mem_of_getElem? hm)
      refine ⟨rfl, ?_⟩
      refine ⟨_, rfl, _, rfl, a, c, ws, l, rfl, ha.same s1, ht.same s1, hq.1, hq.2, fun H2 s2 => ?_⟩
      refine ⟨_, s2 _ _ h1, lt_line (by rw [List.length_map, List.length_map, List.length_take]; omega), same_upd (s1.trans s2) hD, ?_⟩
      rw [upd_same, take_snoc hm, List.map_append, iv_append]
      rfl
    · rintro H' ⟨s1, h1⟩
      rw [List.length_map, el, List.take_length] at h1
      refine ⟨D, _, rfl, SqL.of h1, ?_, fun m hm hmax => ?_⟩
      · rw [List.length_map]
        exact List.length_pos_iff.mpr hne
      · rw [top_is hm hmax]
        exact k _ s1
theorem ok_pits_of (T : Txt K mg e) : FnOk P w K mg base CX0 3 e.a_pits_of e.d_pits_of p_pits_of (spPitsOf e.C) := by
  refine T.pits_of.F.ok sc_pits_of (fun vs H Q E h => ?_) (fun cdv A outer s H vs Q E hr h => ?_)
  · obtain ⟨g, t, cov, rfl, _⟩ := h
    rfl
  · obtain ⟨g, t, cov, rfl, hg, ht, hgood, k⟩ := h
    refine ⟨_, pss_cons (ps_set (i := 1) sc_pits_of.nd rfl (.inl rfl) (pe_lst (pa_cons (pe_tup pa_nil) pa_nil)))
      (pss_cons (ps_for PassesOwn.never rfl (pi_range1 (by rfl) T.no_range (pa_cons (pe_callB (call_lenO (ok_glen T) hr T.b_glen T.lenAt T.lenFn) (by rfl) T.no_len PySem.boot_len (pa_cons (pv 0) pa_nil)) pa_nil)) (pg_name (i := 2) sc_pits_of.nd rfl (.inr rfl))
        (pss_cons (ps_set (i := 3) sc_pits_of.nd rfl (.inr rfl) (pe_ix ix_tup (pe_fld (pv 0) rfl) (pv 2) (fun _ _ => rfl)))
        (pss_one (ps_set (i := 1) sc_pits_of.nd rfl (.inl rfl) (pe_op op_cat (pv 1)
          (pe_lc (own := [("lot", 4)]) (g := gName 4) rfl sc_pits_of.nd (piL K (pv 1)) (blkOk_by (N := n_pits_of) (sc := defScope s_pits_of) (by decide +kernel))
            (fun _ _ _ _ _ => pg_name (i := 4) sc_pits_of.nd rfl (Or.inr rfl))
            (fun _ _ _ _ _ => pts_one (pt_val (pe_callB (allS K rfl) (by rfl) T.no_all bt_all (pa_cons
              (pe_lc (own := [("one", 5)]) (g := gName 5) (tt := tYes) rfl sc_pits_of.nd (piT K (pv 3)) (blkOk_by (by rfl))
                (fun _ _ _ _ _ => pg_name (i := 5) sc_pits_of.nd rfl (Or.inl rfl)) (fun _ _ _ _ _ => pts_nil) (fun _ _ _ _ _ => pe_cmpR (inS K) (pv 5) (pv 4) (by rfl))) pa_nil))))
            (fun _ _ _ _ _ => pe_tup (paS K (pv 4) (pa_cons (pv 2) pa_nil)))))))))
      (pss_one (ps_ret (pe_callBK (cr_sortK (k := 1) hr (sized_key T)) (by rfl) T.no_sorted bt_sorted (pa_cons (pv 1) pa_nil) (pk_cons (pe_glob (v := .ref e.a_sized) (by rfl) T.sized.m rfl) pk_nil))))), ?_⟩
    refine ⟨Nat.zero_le _, fun q hq => ⟨by show 1 ≤ sizeLine; decide, fun f hf => ?_⟩⟩
    have nqf : q ≠ f := ne_of_none upd_same hf
    have s0 : Same H (upd (upd H q (.tup [])) f (.lst [.ref q])) := (same_new hq).trans (same_new hf)
    obtain ⟨ts, ht1, ht2⟩ := id ht
    have hn0 := hgood.n0
    have hn1 := hgood.n1
    have elen := paired_len ht2
    have hlow := hgood.lows
    obtain ⟨dx, hg1⟩ := hg.same s0
    refine ⟨_, rfl, g, dx, _, rfl, hg1, g, t, cov, rfl, ⟨dx, hg1⟩, ht.same s0, cov.length, rfl, by omega, _, rfl, by omega, by omega,
      for_range (lo := 0) (n := ((cov.length : Nat) : Int).toNat) (fun i σ H' => ∃ f v2 v3, σ = [some (.ref g), some (.ref f), v2, v3, none, none] ∧ Same H H' ∧ LT H' f (pitsN cov i))
        ⟨f, _, _, rfl, s0, [q], upd_same, .cons (Eq.trans (upd_ne nqf) upd_same) .nil⟩ ?_ ?_⟩
    · rintro i σ H' hi ⟨f, v2, v3, rfl, s1, as, hf, hp⟩
      have hi' : i < cov.length := by omega
      obtain ⟨c, hc⟩ : ∃ c, cov[i]? = some c := ⟨_, List.getElem?_eq_getElem hi'⟩
      obtain ⟨b, hb, hTI⟩ := paired_right ht2 hc
      obtain ⟨dx, hg1⟩ := hg.same s1
      have hb1 : TI H' b c := hTI.same s1
      have hlenp : (pitsN cov i).length ≤ 2 ^ i := by
        rw [pitsN_eq hlow, ← lotsN_length]
        exact List.length_filter_le _ _
      have h2i : 2 ^ i ≤ 2 ^ 6 := Nat.pow_le_pow_right (by decide) (by omega)
      have ela := paired_len hp
      refine ⟨_, rfl, g, e.C, dx, _, _, rfl, hg1, T.cl, T.nT, table_at t, _, rfl, t, _, _, _, rfl, rfl, SqT.of (s1 _ _ ht1), at_of (j := i) (by omega) (ref_get hb), ?_⟩
      refine ⟨_, rfl, _, rfl, f, rfl, ⟨_, SqL.of hf⟩, fun D hD => ?_⟩
      refine lc_list (K := K) (a := f) (xs := as.map V.ref) (fun j H3 => Same H' H3 ∧ ∃ ds : List Addr, H3 D = some (.lst (ds.map V.ref)) ∧ Paired (TI H3) ds ((((pitsN cov i).take j).filter (fits cov (i : Int))).map fun l => l ++ [(i : Int)]))
        ⟨same_new hD, [], upd_same, .nil⟩ (fun j H3 _ ⟨s2, _⟩ => SqL.of (s2 _ _ hf)) ?_ ?_
      · rintro j x H3 hx ⟨s2, ds, hd, hdp⟩
        obtain ⟨a, ha, rfl⟩ := ref_at hx
        obtain ⟨l, hl, hal⟩ := paired_left hp ha
        have hl1 : TI H3 a l := hal.same s2
        have hlm : l ∈ lotsN i := by
          have q := List.mem_of_getElem? hl
          rw [pitsN_eq hlow] at q
          exact (List.mem_filter.mp q).1
        have hll := lotsN_len hlm
        refine ⟨rfl, ?_⟩
        refine ⟨_, rfl, b, rfl, ⟨_, (hb1.same s2).sq⟩, fun D2 hD2 => ?_⟩
        refine lc_tup (K := K) (a := b) (xs := iv c) (fun m H4 => Same H3 H4 ∧ H4 D2 = some (.lst (((c.take m).map fun o => l.contains o).map V.bl))) ⟨same_new hD2, upd_same⟩ (fun m H4 _ ⟨s3, _⟩ => ((hb1.same s2).same s3).sq) ?_ ?_
        · rintro m y H4 hy ⟨s3, h4⟩
          obtain ⟨o, ho, rfl⟩ := iv_at hy
          have hm := (List.getElem?_eq_some_iff.mp ho).1
          have hcl := len_of_low (hgood.asc c (List.mem_of_getElem? hc)) (hgood.low i c hc)
          refine ⟨rfl, ?_⟩
          refine ⟨_, rfl, _, rfl, a, _, rfl, .inr (hl1.same s3).sq, rfl, flat_ints _, ?_⟩
          refine ⟨_, h4, lt_line (by rw [List.length_map, List.length_map, List.length_take]; omega), same_upd s3 hD2, ?_⟩
          rw [upd_same, take_snoc ho, List.map_append, List.map_append]
          show some (HO.lst (_ ++ [V.bl (inV (V.int o) (iv l))])) = _
          rw [inV_ints]
          rfl
        · rintro H4 ⟨s3, h4⟩
          rw [List.length_map, List.take_length] at h4
          refine ⟨D2, _, rfl, SqL.of h4, ?_⟩
          rw [contains_all]
          have en : (c.all fun o => l.contains o) = fits cov (i : Int) l := by
            unfold fits
            rw [needs_at hc]
          rw [en]
          refine ⟨_, rfl, ?_⟩
          refine ite2 (fun hyes => ?_) (fun hno => ?_)
          · refine ⟨_, rfl, a, _, rfl, .inl (hl1.same s3).sq, _, rfl, ?_, fun p hp' => ?_⟩
            · show (iv l ++ [V.int (0 + (i : Int))]).length ≤ sizeLine
              rw [List.length_append, List.length_map]
              exact le_line (by simp; omega)
            · have nDp : D ≠ p := ne_of_none (s3 _ _ hd) hp'
              refine ⟨ds.map V.ref, by rw [upd_ne nDp]; exact s3 _ _ hd, ?_, ?_⟩
              · rw [List.length_map, paired_len hdp, List.length_map]
                refine lt_line (Nat.le_trans (List.length_filter_le _ _) ?_)
                rw [List.length_take]
                omega
              · refine ⟨same_upd (same_upd (s2.trans s3) (s2.free (s3.free hp'))) hD, ds ++ [p], ?_, ?_⟩
                · rw [upd_same, List.map_append]
                  rfl
                · have e1 : [l].filter (fits cov (i : Int)) = [l] := List.filter_cons_of_pos hyes
                  rw [take_snoc hl, List.filter_append, e1, List.map_append]
                  have kpf : Kp H3 (upd (upd H4 p (.tup (iv l ++ [V.int (0 + (i : Int))]))) D (.lst (ds.map V.ref ++ [V.ref p]))) :=
                    ((Kp.of s3).trans (kp_new hp')).trans (kp_set (xs := ds.map V.ref) (by rw [upd_ne nDp]; exact s3 _ _ hd))
                  refine paired_append (tis_kp hdp kpf) (.cons ?_ .nil)
                  show _ = some (HO.tup (iv (l ++ [(i : Int)])))
                  rw [upd_ne nDp.symm, upd_same, iv_append, Int.zero_add]
                  rfl
          · refine ⟨s2.trans s3, ds, s3 _ _ hd, ?_⟩
            have e1 : [l].filter (fits cov (i : Int)) = [] := List.filter_cons_of_neg hno
            rw [take_snoc hl, List.filter_append, e1, List.append_nil]
            exact tis_kp hdp (Kp.of s3)
      · rintro H3 ⟨s2, ds, hd, hdp⟩
        rw [List.length_map, ela, List.take_length] at hdp
        have ld := paired_len hdp
        rw [List.length_map] at ld
        have lf := List.length_filter_le (fits cov (i : Int)) (pitsN cov i)
        refine ⟨f, D, _, _, rfl, rfl, s2 _ _ hf, hd, le_line (by rw [List.length_map, List.length_map]; omega), fun p hp' => ?_⟩
        refine ⟨p, _, _, rfl, same_upd (s1.trans s2) (s1.free (s2.free hp')), as ++ ds, ?_, ?_⟩
        · rw [upd_same, List.map_append]
        · exact paired_append (tis_kp hp ((Kp.of s2).trans (kp_new hp'))) (tis_kp hdp (kp_new hp'))
    · rintro σ H' ⟨f, v2, v3, rfl, s1, as, hf, hp⟩
      rw [Int.toNat_natCast] at hp
      refine ⟨_, rfl, f, as, _, rfl, rfl, SqL.of hf, hp, fun as' p hp' hnew => ?_⟩
      exact k _ p (same_upd s1 (s1.free hnew)) ⟨as', upd_same, tis_kp hp' (kp_new hnew)⟩
theorem pits_lots {cov : List (List Int)} (h : Good cov) {l : List Int} (hl : l ∈ srt (pitsN cov cov.length)) : l ∈ lotsN cov.length := by
  rw [srt_mem, pitsN_eq h.lows] at hl
  exact (List.mem_filter.mp hl).1
theorem pits_len {cov : List (List Int)} (h : Good cov) : (srt (pitsN cov cov.length)).length ≤ 64 := by
  rw [srt_len, pitsN_eq h.lows]
  refine Nat.le_trans (List.length_filter_le _ _) ?_
  rw [lotsN_length]
  exact Nat.pow_le_pow_right (show 2 > 0 by decide) h.n1
theorem pits_ne {cov : List (List Int)} (h : Good cov) : srt (pitsN cov cov.length) ≠ [] := by
  refine List.ne_nil_of_mem (a := []) ?_
  rw [srt_mem, pitsN_eq h.lows]
  exact List.mem_filter.mpr ⟨nil_lotsN _, rfl⟩
theorem lots_ok {ws : List Int} {n : Nat} (h : ws.length = n) (hn : n ≤ 1000) {l : List Int} (hl : l ∈ lotsN n) : l.length ≤ 1000 ∧ ∀ o ∈ l, 0 ≤ o ∧ o < (ws.length : Int) := by
  refine ⟨Nat.le_trans (lotsN_len hl) hn, fun o ho => ?_⟩
  have := lotsN_mem hl o ho
  omega
theorem ok_best_pits (T : Txt K mg e) : FnOk P w K mg base CX0 4 e.a_best_pits e.d_best_pits p_best_pits (spBestPits e.C) := by
  refine T.best_pits.F.ok sc_best_pits (fun vs H Q E h => ?_) (fun cdv A outer s H vs Q E hr h => ?_)
  · obtain ⟨g, t, a, cov, ws, rfl, _⟩ := h
    rfl
  · obtain ⟨g, t, a, cov, ws, rfl, hg, ht, hgood, ha, hw, k⟩ := h
    refine ⟨_, pss_cons (ps_set (i := 2) sc_best_pits.nd rfl (.inl rfl) (pe_call (ok_pits_of T) hr rfl T.pits_of.m T.pits_of.F.kp T.pits_of.b .nil pass0 (pa_cons (pv 0) pa_nil)))
      (pss_cons (ps_set (i := 3) sc_best_pits.nd rfl (.inr rfl) (pe_call (ok_greatest_of T) (hr.mono (by decide)) rfl T.greatest_of.m T.greatest_of.F.kp T.greatest_of.b .nil pass0 (pa_cons (pv 1) (pa_cons (pv 2) pa_nil))))
      (pss_one (ps_ret (pe_lc (own := [("pit", 4)]) (g := gName 4) rfl sc_best_pits.nd (piL K (pv 2)) (blkOk_by (N := n_best_pits) (sc := defScope s_best_pits) (by decide +kernel))
        (fun _ _ _ _ _ => pg_name (i := 4) sc_best_pits.nd rfl (Or.inl rfl))
        (fun _ _ _ _ _ => pts_one (pt_cmpR op_eq (pe_call (ok_sum_of T) (hr.mono (by decide)) rfl T.sum_of.m T.sum_of.F.kp T.sum_of.b .nil pass0 (pa_cons (pv 1) (pa_cons (pv 4) pa_nil))) (pv 3) (nomark _)))
        (fun _ _ _ _ _ => pv 4))))), ?_⟩
    refine ⟨_, rfl, g, t, cov, rfl, hg, ht, hgood, fun H1 p s1 ⟨as, hp1, hp2⟩ => ?_⟩
    have hlen := pits_len hgood
    have hn1 := hgood.n1
    have ok : OkLots ws (srt (pitsN cov cov.length)) := fun l hl => lots_ok hw (by omega) (pits_lots hgood hl)
    refine ⟨_, rfl, _, rfl, a, p, ws, srt (pitsN cov cov.length), rfl, ha.same s1, ⟨as, hp1, hp2⟩, pits_ne hgood, by omega, ok, fun H2 s2 => ?_⟩
    generalize hls : srt (pitsN cov cov.length) = ls at *
    generalize hm : topOf (ls.map (lotSum ws)) = m
    have ela := paired_len hp2
    refine ⟨_, rfl, p, rfl, ⟨_, SqL.of (s2 _ _ hp1)⟩, fun D hD => ?_⟩
    refine lc_list (K := K) (a := p) (xs := as.map V.ref) (fun j H3 => Same H2 H3 ∧ ∃ ds : List Addr, H3 D = some (.lst (ds.map V.ref)) ∧ Paired (TI H3) ds ((ls.take j).filter fun l => lotSum ws l == m))
      ⟨same_new hD, [], upd_same, .nil⟩ (fun j H3 _ ⟨s3, _⟩ => SqL.of (s3 _ _ (s2 _ _ hp1))) ?_ ?_
    · rintro j x H3 hx ⟨s3, ds, hd, hdp⟩
      obtain ⟨c, hc, rfl⟩ := ref_at hx
      obtain ⟨l, hl, hcl⟩ := paired_left hp2 hc
      have hq := ok l (List.mem_of_getElem? hl)
      have s13 := s2.trans s3
      refine ⟨rfl, ?_⟩
      refine ⟨_, rfl, _, rfl, a, c, ws, l, rfl, (ha.same s1).same s13, hcl.same s13, hq.1, hq.2, fun H4 s4 => ⟨_, rfl, rfl, _, rfl, ?_⟩⟩
      rw [dec_int]
      refine ite2 (fun hyes => ?_) (fun hno => ?_)
      · refine ⟨_, rfl, ds.map V.ref, s4 _ _ hd, ?_, same_upd (s3.trans s4) hD, ds ++ [c], ?_, ?_⟩
        · rw [List.length_map, paired_len hdp]
          refine lt_line (Nat.le_trans (List.length_filter_le _ _) ?_)
          rw [List.length_take]
          omega
        · rw [upd_same, List.map_append]
          rfl
        · have e1 : [l].filter (fun l => lotSum ws l == m) = [l] := List.filter_cons_of_pos hyes
          rw [take_snoc hl, List.filter_append, e1]
          have kpf : Kp H3 (upd H4 D (.lst (ds.map V.ref ++ [V.ref c]))) := (Kp.of s4).trans (kp_set (s4 _ _ hd))
          exact paired_append (tis_kp hdp kpf) (.cons ((hcl.same s13).kp kpf) .nil)
      · refine ⟨s3.trans s4, ds, s4 _ _ hd, ?_⟩
        have e1 : [l].filter (fun l => lotSum ws l == m) = [] := List.filter_cons_of_neg hno
        rw [take_snoc hl, List.filter_append, e1, List.append_nil]
        exact tis_kp hdp (Kp.of s4)
    · rintro H3 ⟨s3, ds, hd, hdp⟩
      rw [List.length_map, ela, List.take_length] at hdp
      refine k _ D ((s1.trans s2).trans s3) ⟨ds, hd, ?_⟩
      rw [← hm] at hdp
      exact hdp
end
end Pk
namespace Pk
open PySem PySem.Spec PyProof.Rows L2
theorem atI_neg1 {α : Type} {xs : List α} {v : α} (h : xs[xs.length - 1]? = some v) : atI xs (-1) = some v := by
  have hl := (List.getElem?_eq_some_iff.mp h).1
  unfold atI ixN
  rw [if_neg (by omega), if_pos (by omega)]
  show xs[((-1 : Int) + (xs.length : Int)).toNat]? = some v
  rw [show ((-1 : Int) + (xs.length : Int)).toNat = xs.length - 1 by omega]
  exact h
theorem walk_zipT {K : PySem.W.Frag} {a b : Addr} {xs ys : List V} (hl : xs.length = ys.length) :
    Walk (RZ.ItzT K a b) xs.length (fun H => SqT K H a xs ∧ SqT K H b ys) (YPair (fun i => xs[i]?) (fun i => ys[i]?)) where
  goes := fun i H hi hG => ⟨xs, ys, xs[i], ys[i]'(by omega), hG.1, hG.2, List.getElem?_eq_getElem hi, List.getElem?_eq_getElem (by omega)⟩
  stops := fun H hG => ⟨xs, ys, hG.1, hG.2, .inl (Nat.le_refl _)⟩
  yields := fun i H v H' hi hG hy => by
    obtain ⟨T, x, y, h1, h2, h3, h4, h5⟩ := hy
    exact ⟨T, x, y, h1, h2, h3, h4 xs hG.1, h5 ys hG.2⟩
/-- gains and costs of a ground -/
structure Market (cov : List (List Int)) (gs cs : List Int) : Prop where
  good : Good cov
  gl : gs.length = cov.length
  cl : cs.length = cov.length
  gb : ∀ x ∈ gs, 0 ≤ x ∧ x ≤ 9
  cb : ∀ x ∈ cs, 0 ≤ x ∧ x ≤ 50
theorem Market.wl {cov : List (List Int)} {gs cs : List Int} (m : Market cov gs cs) (p q : Int) : (worthsOf gs cs p q).length = cov.length := by
  unfold worthsOf
  rw [List.length_zipWith, m.gl, m.cl, Nat.min_self]
theorem worths_at {gs cs : List Int} {p q g c : Int} {i : Nat} (hg : gs[i]? = some g) (hc : cs[i]? = some c) : (worthsOf gs cs p q)[i]? = some (g * p - c * q) := by
  unfold worthsOf
  rw [List.getElem?_zipWith, hg, hc]

def spCommon : Sp := fun vs H Q _ => ∃ a b : Int, vs = [.int a, .int b] ∧ 0 ≤ b ∧ Q (.int ((Int.gcd a b : Nat) : Int)) H
def spLowest : Sp := fun vs H Q _ => ∃ a b : Int, vs = [.int a, .int b] ∧ 0 < b ∧ b < 1073741824 ∧ ∀ H' p, Same H H' → TI H' p [(lowP a b).1, (lowP a b).2] → Q (.ref p) H'
def spAreFrom (C : Addr) : Sp := fun vs H Q _ => ∃ (g t a : Addr) (cov : List (List Int)) (ns : List Int) (hi : Int), vs = [.ref g, .ref a, .int hi] ∧ Gr C H g t ∧ TT H t cov ∧ TI H a ns ∧ ns.length = cov.length ∧ cov.length ≤ 1000 ∧ (∀ o ∈ ns, 0 ≤ o ∧ o ≤ hi) ∧ ∀ H', Same H H' → Q (.bl true) H'
def spNeedBoth (C : Addr) : Sp := fun vs H Q _ => ∃ (g t a b : Addr) (cov : List (List Int)) (gs cs : List Int), vs = [.ref g, .ref a, .ref b] ∧ Gr C H g t ∧ TT H t cov ∧ TI H a gs ∧ TI H b cs ∧ Market cov gs cs ∧ ∀ H', Same H H' → Q .non H'
def spIsPrice : Sp := fun vs H Q _ => ∃ (a : Addr) (p q : Int), vs = [.ref a] ∧ TI H a [p, q] ∧ Price p q ∧ Q (.bl true) H
def spNeedPrice : Sp := fun vs H Q _ => ∃ (a : Addr) (p q : Int), vs = [.ref a] ∧ TI H a [p, q] ∧ Price p q ∧ Q .non H
def spWorthsBy : Sp := fun vs H Q _ => ∃ (a b c : Addr) (cov : List (List Int)) (gs cs : List Int) (p q : Int), vs = [.ref a, .ref b, .ref c] ∧ TI H a gs ∧ TI H b cs ∧ Market cov gs cs ∧ TI H c [p, q] ∧ ∀ H' r, Same H H' → TI H' r (worthsOf gs cs p q) → Q (.ref r) H'
def spWorthAt (C : Addr) : Sp := fun vs H Q _ => ∃ (g t a b c d : Addr) (cov : List (List Int)) (gs cs l : List Int) (p q : Int), vs = [.ref g, .ref a, .ref b, .ref c, .ref d] ∧ Gr C H g t ∧ TT H t cov ∧ TI H a gs ∧ TI H b cs ∧ Market cov gs cs ∧ TI H c [p, q] ∧ Price p q ∧
  TI H d l ∧ l ∈ lotsN cov.length ∧ ∀ H' r, Same H H' → TI H' r [(lowP (lotSum (worthsOf gs cs p q) l) q).1, (lowP (lotSum (worthsOf gs cs p q) l) q).2] → Q (.ref r) H'
/-- what best_at tells: at r -/
def Res (H : Hp) (r : Addr) (ws : List Int) (q : Int) (best : List (List Int)) : Prop := ∃ (l0 l1 : List Int) (a b c : Addr), best[0]? = some l0 ∧ best[best.length - 1]? = some l1 ∧ H r = some (.tup [.ref a, .ref b, .ref c]) ∧
  TI H a [(lowP (lotSum ws l0) q).1, (lowP (lotSum ws l0) q).2] ∧ TI H b l0 ∧ TI H c l1
def spBestBy (C : Addr) : Sp := fun vs H Q _ => ∃ (g t a b c : Addr) (cov : List (List Int)) (gs cs : List Int) (p q : Int), vs = [.ref g, .ref a, .ref b, .ref c] ∧ Gr C H g t ∧ TT H t cov ∧ TI H a gs ∧ TI H b cs ∧ Market cov gs cs ∧ TI H c [p, q] ∧ Price p q ∧
  ∀ H' r, Same H H' → Res H' r (worthsOf gs cs p q) q (bestOf (worthsOf gs cs p q) (srt (pitsN cov cov.length))) → Q (.ref r) H'

section
variable {P : Program} {w : World} {K : PySem.W.Frag} {mg : Str → Option Value} {base : Heap} {e : Lay}
theorem ok_common (T : Txt K mg e) : FnOk P w K mg base CX0 1 e.a_common e.d_common p_common spCommon := by
  refine T.common.F.ok sc_common (fun vs H Q E h => ?_) (fun cdv A outer s H vs Q E hr h => ?_)
  · obtain ⟨a, b, rfl, _⟩ := h
    rfl
  · obtain ⟨a, b, rfl, hb, k⟩ := h
    refine ⟨_, pss_cons (ps_while PassesOwn.never (pt_cmpR op_ne (pv 1) pe_int (nomark _))
        (pss_one (ps_par (i := 0) (j := 1) rfl sc_common.nd rfl rfl (by decide) rfl rfl (pa_cons (pv 1) (pa_cons (pe_op op_mod (pv 0) (pv 1)) pa_nil)) rfl)))
      (pss_one (ps_ret (pe_callB call_abs (by rfl) T.no_abs bt_abs (pa_cons (pv 0) pa_nil)))), ?_⟩
    refine while_by (fun σ H' => H' = H ∧ ∃ x y : Int, σ = [some (.int x), some (.int y)] ∧ 0 ≤ y ∧ Int.gcd x y = Int.gcd a b) (fun σ _ => match σ with | [_, some (.int y)] => y.toNat | _ => 0) ⟨rfl, a, b, rfl, hb, rfl⟩ ?_ (fun σ H Q Q' hq ⟨v, hv, hs, k, hk, q⟩ => ⟨v, hv, hs, k, hk, hq _ _ q⟩)
    rintro σ H' ⟨rfl, x, y, rfl, hy, hg⟩
    refine ⟨_, rfl, rfl, _, rfl, ?_⟩
    rw [dec_int]
    refine ite2 (fun hyes => ?_) (fun hno => ?_)
    · have hy0 : y ≠ 0 := by
        intro q
        rw [q] at hyes
        exact absurd hyes (by decide)
      refine ⟨_, rfl, _, rfl, _, rfl, _, _, rfl, rfl, by omega, _, _, rfl, ⟨rfl, y, x % y, rfl, Int.emod_nonneg _ hy0, by rw [gcd_step]; exact hg⟩, ?_⟩
      show (x % y).toNat < y.toNat
      have := Int.emod_lt_of_pos x (b := y) (by omega)
      omega
    · have hy0 : y = 0 := by
        by_cases q : y = 0
        · exact q
        · refine absurd ?_ hno
          rw [beq_eq_false_iff_ne.mpr q]
          rfl
      refine ⟨_, rfl, x, rfl, ?_⟩
      rw [gcd_end, ← hy0, hg]
      exact k
theorem ok_lowest (T : Txt K mg e) : FnOk P w K mg base CX0 2 e.a_lowest e.d_lowest p_lowest spLowest := by
  refine T.lowest.F.ok sc_lowest (fun vs H Q E h => ?_) (fun cdv A outer s H vs Q E hr h => ?_)
  · obtain ⟨a, b, rfl, _⟩ := h
    rfl
  · obtain ⟨a, b, rfl, hb, hm, k⟩ := h
    have g0 := gcd_pos (a := a) hb
    have g1 := gcd_le (a := a) hb
    refine ⟨_, pss_cons (ps_set (i := 2) sc_lowest.nd rfl (.inl rfl) (pe_call (ok_common T) hr rfl T.common.m T.common.F.kp T.common.b .nil pass0 (pa_cons (pv 0) (pa_cons (pv 1) pa_nil))))
      (pss_one (ps_ret (pe_tup (pa_cons (pe_op op_fdiv (pv 0) (pv 2)) (pa_cons (pe_op op_fdiv (pv 1) (pv 2)) pa_nil))))), ?_⟩
    refine ⟨_, rfl, _, rfl, a, b, rfl, by omega, ?_⟩
    refine ⟨_, rfl, _, rfl, _, _, rfl, rfl, ⟨g0, by omega⟩, _, rfl, _, rfl, _, _, rfl, rfl, ⟨g0, by omega⟩, by show 2 ≤ sizeLine; decide, fun p hp => ?_⟩
    exact k _ p (same_new hp) upd_same
theorem ok_are_from (T : Txt K mg e) : FnOk P w K mg base CX0 3 e.a_are_from e.d_are_from p_are_from (spAreFrom e.C) := by
  refine T.are_from.F.ok sc_are_from (fun vs H Q E h => ?_) (fun cdv A outer s H vs Q E hr h => ?_)
  · obtain ⟨g, t, a, cov, ns, hi, rfl, _⟩ := h
    rfl
  · obtain ⟨g, t, a, cov, ns, hi, rfl, ⟨dx, hg⟩, ht, ha, hl, hc, hb, k⟩ := h
    refine ⟨_, pss_one (ps_ret (pe_and (pe_callB call_isi (by rfl) T.no_isinstance bt_isinstance (pa_cons (pv 1) (pa_cons (pe_bltn (v := .ty "tuple") (by rfl) T.no_tuple bt_tuple rfl) pa_nil)))
      (pe_and (pe_cmpR op_eq (pe_callB call_len_seq (by rfl) T.no_len PySem.boot_len (pa_cons (pv 1) pa_nil)) (pe_callB (call_lenO (ok_glen T) hr T.b_glen T.lenAt T.lenFn) (by rfl) T.no_len PySem.boot_len (pa_cons (pv 0) pa_nil)) (nomark _))
      (pe_one (pe_callB (allS K rfl) (by rfl) T.no_all bt_all (pa_cons
        (pe_lc (own := [("one", 3)]) (g := gName 3) (tt := tYes) rfl sc_are_from.nd (piT K (pv 1))
          (blkOk_by (N := n_are_from) (sc := defScope s_are_from) (by decide +kernel)) (fun _ _ _ _ _ => pg_name (i := 3) sc_are_from.nd rfl (Or.inl rfl)) (fun _ _ _ _ _ => pts_nil)
          (fun _ _ _ _ _ => pe_call (ok_is_from T) (hr.mono (by decide)) rfl T.is_from.m T.is_from.F.kp T.is_from.b .nil pass0 (pa_cons (pv 3) (pa_cons pe_int (pa_cons (pv 2) pa_nil))))) pa_nil)))))), ?_⟩
    refine ⟨_, rfl, .ref a, .ty "tuple", _, _, true, rfl, .ty "tuple", .base (.tup ha), ki_tt, true, rfl, iteT ?_⟩
    refine ⟨_, rfl, a, _, rfl, .inr ha.sq, _, rfl, g, dx, _, rfl, hg, g, t, cov, rfl, ⟨dx, hg⟩, ht, cov.length, rfl, by omega, rfl, _, rfl, ?_⟩
    rw [decide_eq_true (show V.int (((iv ns).length : Nat) : Int) = V.int ((cov.length : Nat) : Int) by rw [List.length_map, hl])]
    refine iteT ?_
    refine ⟨_, rfl, a, rfl, ⟨_, ha.sq⟩, fun D hD => ?_⟩
    refine lc_tup (K := K) (a := a) (xs := iv ns) (fun i H' => Same H H' ∧ H' D = some (.lst ((List.replicate i true).map V.bl))) ⟨same_new hD, upd_same⟩ (fun i H' _ ⟨s1, _⟩ => (ha.same s1).sq) ?_ ?_
    · rintro i x H' hx ⟨s1, h1⟩
      obtain ⟨o, ho, rfl⟩ := iv_at hx
      have hi := (List.getElem?_eq_some_iff.mp ho).1
      have hm := hb o (List.mem_of_getElem? ho)
      refine ⟨rfl, ?_⟩
      refine ⟨_, rfl, _, rfl, _, _, _, rfl, hm.1, hm.2, ?_⟩
      refine ⟨_, h1, lt_line (by rw [List.length_map, List.length_replicate]; omega), same_upd s1 hD, ?_⟩
      rw [upd_same, List.replicate_succ', List.map_append]
      rfl
    · rintro H' ⟨s1, h1⟩
      refine ⟨D, _, rfl, SqL.of h1, ?_⟩
      have e1 : (List.replicate (iv ns).length true).all id = true := List.all_eq_true.mpr fun b hb => (List.mem_replicate.mp hb).2
      rw [e1]
      exact k _ s1
theorem ok_need_both (T : Txt K mg e) : FnOk P w K mg base CX0 4 e.a_need_both e.d_need_both p_need_both (spNeedBoth e.C) := by
  refine T.need_both.F.ok sc_need_both (fun vs H Q E h => ?_) (fun cdv A outer s H vs Q E hr h => ?_)
  · obtain ⟨g, t, a, b, cov, gs, cs, rfl, _⟩ := h
    rfl
  · obtain ⟨g, t, a, b, cov, gs, cs, rfl, hg, ht, ha, hb, m, k⟩ := h
    obtain ⟨t1, m1⟩ := T.c_MOST_GAIN
    obtain ⟨t2, m2⟩ := T.c_MOST_COST
    have hn1 := m.good.n1
    refine ⟨_, pss_cons (ps_expr (pe_call (ok_need_ground T) (hr.mono (by decide)) rfl T.need_ground.m T.need_ground.F.kp T.need_ground.b .nil pass0 (pa_cons (pv 0) pa_nil)))
      (pss_cons (ps_if (pt_not (pt_val (pe_call (ok_are_from T) hr rfl T.are_from.m T.are_from.F.kp T.are_from.b .nil pass0 (pa_cons (pv 0) (pa_cons (pv 1) (pa_cons (pe_glob (v := .int 9) (by rfl) m1 ⟨_, rfl⟩) pa_nil)))))) pss_never pss_nil)
      (pss_one (ps_if (pt_not (pt_val (pe_call (ok_are_from T) hr rfl T.are_from.m T.are_from.F.kp T.are_from.b .nil pass0 (pa_cons (pv 0) (pa_cons (pv 2) (pa_cons (pe_glob (v := .int 50) (by rfl) m2 ⟨_, rfl⟩) pa_nil)))))) pss_never pss_nil))), ?_⟩
    refine ⟨_, rfl, g, t, rfl, hg, ?_⟩
    refine ⟨_, rfl, _, rfl, g, t, a, cov, gs, 9, rfl, hg, ht, ha, m.gl, by omega, m.gb, fun H1 s1 => ⟨true, rfl, iteF ?_⟩⟩
    refine ⟨_, rfl, _, rfl, g, t, b, cov, cs, 50, rfl, hg.same s1, ht.same s1, hb.same s1, m.cl, by omega, m.cb, fun H2 s2 => ⟨true, rfl, iteF ?_⟩⟩
    exact k _ (s1.trans s2)
theorem ok_is_price (T : Txt K mg e) : FnOk P w K mg base CX0 2 e.a_is_price e.d_is_price p_is_price spIsPrice := by
  refine T.is_price.F.ok sc_is_price (fun vs H Q E h => ?_) (fun cdv A outer s H vs Q E hr h => ?_)
  · obtain ⟨a, p, q, rfl, _⟩ := h
    rfl
  · obtain ⟨a, p, q, rfl, ha, hp, k⟩ := h
    obtain ⟨tm, mm⟩ := T.c_MOST_PRICE
    refine ⟨_, pss_cons (ps_if (PW.pt (pw_or (pt_not (pt_val (pe_callB call_isi (by rfl) T.no_isinstance bt_isinstance (pa_cons (pv 0) (pa_cons (pe_bltn (v := .ty "tuple") (by rfl) T.no_tuple bt_tuple rfl) pa_nil)))))
        (pw_or1 (pt_cmpR op_ne (pe_callB call_len_seq (by rfl) T.no_len PySem.boot_len (pa_cons (pv 0) pa_nil)) pe_int (nomark _))))) pss_never pss_nil)
      (pss_cons (ps_if (PW.pt (pw_or (pt_not (pt_val (pe_call (ok_is_from T) hr rfl T.is_from.m T.is_from.F.kp T.is_from.b .nil pass0 (pa_cons (pe_ix ix_tup (pv 0) pe_int (fun _ _ => rfl)) (pa_cons pe_int (pa_cons (pe_glob (v := .int 1000000) (by rfl) mm ⟨_, rfl⟩) pa_nil))))))
        (pw_or1 (pt_not (pt_val (pe_call (ok_is_from T) hr rfl T.is_from.m T.is_from.F.kp T.is_from.b .nil pass0 (pa_cons (pe_ix ix_tup (pv 0) pe_int (fun _ _ => rfl)) (pa_cons pe_int (pa_cons (pe_glob (v := .int 1000000) (by rfl) mm ⟨_, rfl⟩) pa_nil))))))))) pss_never pss_nil)
      (pss_one (ps_ret (pe_cmpR op_eq (pe_call (ok_common T) hr rfl T.common.m T.common.F.kp T.common.b .nil pass0 (pa_cons (pe_ix ix_tup (pv 0) pe_int (fun _ _ => rfl)) (pa_cons (pe_ix ix_tup (pv 0) pe_int (fun _ _ => rfl)) pa_nil))) pe_int (nomark _))))), ?_⟩
    have i0 : atI (iv [p, q]) 0 = some (V.int p) := int_at (j := 0) rfl rfl
    have i1 : atI (iv [p, q]) 1 = some (V.int q) := int_at (j := 1) rfl rfl
    refine ⟨_, rfl, .ref a, .ty "tuple", _, _, true, rfl, .ty "tuple", .base (.tup ha), ki_tt, true, rfl, iteF ?_⟩
    refine ⟨_, rfl, a, _, rfl, .inr ha.sq, rfl, _, rfl, ?_⟩
    rw [show (!decide (V.int (((iv [p, q]).length : Nat) : Int) = V.int 2)) = false from rfl]
    refine iteF ?_
    refine ⟨_, rfl, a, _, _, _, rfl, rfl, ha.sq, i0, _, _, _, rfl, hp.p0, hp.p1, true, rfl, iteF ?_⟩
    refine ⟨_, rfl, a, _, _, _, rfl, rfl, ha.sq, i1, _, _, _, rfl, hp.q0, hp.q1, true, rfl, iteF ?_⟩
    refine ⟨_, rfl, a, _, _, _, rfl, rfl, ha.sq, i0, _, rfl, a, _, _, _, rfl, rfl, ha.sq, i1, p, q, rfl, Int.le_trans (by decide) hp.q0, rfl, ?_⟩
    rw [hp.co]
    exact k
theorem ok_need_price (T : Txt K mg e) : FnOk P w K mg base CX0 3 e.a_need_price e.d_need_price p_need_price spNeedPrice := by
  refine T.need_price.F.ok sc_need_price (fun vs H Q E h => ?_) (fun cdv A outer s H vs Q E hr h => ?_)
  · obtain ⟨a, p, q, rfl, _⟩ := h
    rfl
  · obtain ⟨a, p, q, rfl, ha, hp, k⟩ := h
    refine ⟨_, pss_one (ps_if (pt_not (pt_val (pe_call (ok_is_price T) hr rfl T.is_price.m T.is_price.F.kp T.is_price.b .nil pass0 (pa_cons (pv 0) pa_nil)))) pss_never pss_nil), ?_⟩
    exact ⟨_, rfl, a, p, q, rfl, ha, hp, true, rfl, iteF k⟩
theorem ok_worths_by (T : Txt K mg e) : FnOk P w K mg base CX0 1 e.a_worths_by e.d_worths_by p_worths_by spWorthsBy := by
  refine T.worths_by.F.ok sc_worths_by (fun vs H Q E h => ?_) (fun cdv A outer s H vs Q E hr h => ?_)
  · obtain ⟨a, b, c, cov, gs, cs, p, q, rfl, _⟩ := h
    rfl
  · obtain ⟨a, b, c, cov, gs, cs, p, q, rfl, ha, hb, m, hc, k⟩ := h
    have hn1 := m.good.n1
    have hgl := m.gl
    have hcl := m.cl
    have hwl := m.wl p q
    have i0 : atI (iv [p, q]) 0 = some (V.int p) := int_at (j := 0) rfl rfl
    have i1 : atI (iv [p, q]) 1 = some (V.int q) := int_at (j := 1) rfl rfl
    refine ⟨_, pss_one (ps_ret (pe_callTy call_tuple_of (by rfl) T.no_tuple bt_tuple (pa_cons
      (pe_lc (own := [("gain", 3), ("cost", 4)]) (g := gTup K 2 (gCons (gName 3) (gCons (gName 4) gNil))) (tt := tYes) rfl sc_worths_by.nd (RZ.pi_zipA (by rfl) T.no_zip (pa_cons (pv 0) (pa_cons (pv 1) pa_nil)))
        (blkOk_by (N := n_worths_by) (sc := defScope s_worths_by) (by decide +kernel))
        (fun _ _ _ _ _ => pgT K rfl (pgs_cons (pg_name (i := 3) sc_worths_by.nd rfl (Or.inl rfl)) (pgs_cons (pg_name (i := 4) sc_worths_by.nd rfl (Or.inl rfl)) pgs_nil))) (fun _ _ _ _ _ => pts_nil)
        (fun _ _ _ _ _ => pe_op op_sub (pe_op op_mul (pv 3) (pe_ix (ixT K) (pv 2) pe_int (fun _ _ => rfl))) (pe_op op_mul (pv 4) (pe_ix (ixT K) (pv 2) pe_int (fun _ _ => rfl))))) pa_nil))), ?_⟩
    refine ⟨_, rfl, _, rfl, a, b, iv gs, iv cs, rfl, .inr ⟨ha.sq, hb.sq, fun D hD => ?_⟩⟩
    refine lc_it (walk_zipT (K := K) (a := a) (b := b) (xs := iv gs) (ys := iv cs) (by rw [List.length_map, List.length_map]; omega))
      (fun i H' => Same H H' ∧ H' D = some (.lst (iv ((worthsOf gs cs p q).take i)))) ⟨same_new hD, upd_same⟩ (fun i H' _ ⟨s1, _⟩ => ⟨(ha.same s1).sq, (hb.same s1).sq⟩) ?_ ?_
    · rintro i x H' H2 hi ⟨s1, h1⟩ ⟨q', x1, y1, rfl, hq, rfl, e1, e2⟩
      obtain ⟨x2, hx, rfl⟩ := iv_at e1
      obtain ⟨y2, hy, rfl⟩ := iv_at e2
      have nDq : D ≠ q' := ne_of_none h1 hq
      have s2 : Same H (upd H' q' (.tup [.int x2, .int y2])) := s1.trans (same_new hq)
      have bx := m.gb x2 (List.mem_of_getElem? hx)
      have b_y := m.cb y2 (List.mem_of_getElem? hy)
      refine ⟨q', _, rfl, SqT.of upd_same, rfl, _, _, rfl, _, _, rfl, rfl, rfl, ?_⟩
      refine ⟨_, rfl, _, rfl, c, _, _, _, rfl, rfl, (hc.same s2).sq, i0, _, _, rfl, rfl, .inl ⟨by omega, by omega⟩, ?_⟩
      refine ⟨_, rfl, _, rfl, c, _, _, _, rfl, rfl, (hc.same s2).sq, i1, _, _, rfl, rfl, .inl ⟨by omega, by omega⟩, _, _, rfl, rfl, ?_⟩
      refine ⟨iv ((worthsOf gs cs p q).take i), by rw [upd_ne nDq]; exact h1, lt_line (by rw [List.length_map, List.length_take]; omega), same_upd s2 hD, ?_⟩
      rw [upd_same, take_snoc (worths_at hx hy), iv_append]
      rfl
    · rintro H' ⟨s1, h1⟩
      rw [List.length_map, hgl, ← hwl, List.take_length] at h1
      exact ⟨D, _, rfl, .inl ⟨SqL.of h1, fun l hl => k _ l (same_upd s1 (s1.free hl)) upd_same⟩⟩
theorem ok_worth_at (T : Txt K mg e) : FnOk P w K mg base CX0 6 e.a_worth_at e.d_worth_at p_worth_at (spWorthAt e.C) := by
  refine T.worth_at.F.ok sc_worth_at (fun vs H Q E h => ?_) (fun cdv A outer s H vs Q E hr h => ?_)
  · obtain ⟨g, t, a, b, c, d, cov, gs, cs, l, p, q, rfl, _⟩ := h
    rfl
  · obtain ⟨g, t, a, b, c, d, cov, gs, cs, l, p, q, rfl, hg, ht, ha, hb, m, hc, hp, hd, hl, k⟩ := h
    have hn1 := m.good.n1
    have hll := lotsN_len hl
    have hq1 := hp.q1
    have hq0 := hp.q0
    have i1 : atI (iv [p, q]) 1 = some (V.int q) := int_at (j := 1) rfl rfl
    refine ⟨_, pss_cons (ps_expr (pe_call (ok_need_both T) (hr.mono (by decide)) rfl T.need_both.m T.need_both.F.kp T.need_both.b .nil pass0 (pa_cons (pv 0) (pa_cons (pv 1) (pa_cons (pv 2) pa_nil)))))
      (pss_cons (ps_expr (pe_call (ok_need_price T) (hr.mono (by decide)) rfl T.need_price.m T.need_price.F.kp T.need_price.b .nil pass0 (pa_cons (pv 3) pa_nil)))
      (pss_cons (ps_expr (pe_call (ok_need_lot T) hr rfl T.need_lot.m T.need_lot.F.kp T.need_lot.b .nil pass0 (pa_cons (pv 0) (pa_cons (pv 4) pa_nil))))
      (pss_one (ps_ret (pe_call (ok_lowest T) (hr.mono (by decide)) rfl T.lowest.m T.lowest.F.kp T.lowest.b .nil pass0 (pa_cons
        (pe_call (ok_sum_of T) (hr.mono (by decide)) rfl T.sum_of.m T.sum_of.F.kp T.sum_of.b .nil pass0 (pa_cons (pe_call (ok_worths_by T) (hr.mono (by decide)) rfl T.worths_by.m T.worths_by.F.kp T.worths_by.b .nil pass0 (pa_cons (pv 1) (pa_cons (pv 2) (pa_cons (pv 3) pa_nil)))) (pa_cons (pv 4) pa_nil)))
        (pa_cons (pe_ix ix_tup (pv 3) pe_int (fun _ _ => rfl)) pa_nil))))))), ?_⟩
    refine ⟨_, rfl, _, rfl, _, rfl, g, t, a, b, cov, gs, cs, rfl, hg, ht, ha, hb, m, fun H1 s1 => ?_⟩
    refine ⟨_, rfl, c, p, q, rfl, hc.same s1, hp, ?_⟩
    refine ⟨_, rfl, _, rfl, g, t, d, cov, l, rfl, hg.same s1, ht.same s1, by omega, hd.same s1, by omega, lotsN_asc hl, fun o ho => lotsN_mem hl o ho, fun H2 s2 => ?_⟩
    have s12 := s1.trans s2
    refine ⟨_, rfl, _, rfl, _, rfl, a, b, c, cov, gs, cs, p, q, rfl, ha.same s12, hb.same s12, m, hc.same s12, fun H3 r s3 hr3 => ?_⟩
    have s13 := s12.trans s3
    refine ⟨_, rfl, r, d, _, l, rfl, hr3, hd.same s13, by omega, fun o ho => ?_, fun H4 s4 => ?_⟩
    · rw [m.wl]
      exact lotsN_mem hl o ho
    · have s14 := s13.trans s4
      refine ⟨_, rfl, c, _, _, _, rfl, rfl, (hc.same s14).sq, i1, _, q, rfl, by omega, by omega, fun H5 u s5 hu => ?_⟩
      exact k _ u (s14.trans s5) hu
theorem ok_best_by (T : Txt K mg e) : FnOk P w K mg base CX0 5 e.a_best_by e.d_best_by p_best_by (spBestBy e.C) := by
  refine T.best_by.F.ok sc_best_by (fun vs H Q E h => ?_) (fun cdv A outer s H vs Q E hr h => ?_)
  · obtain ⟨g, t, a, b, c, cov, gs, cs, p, q, rfl, _⟩ := h
    rfl
  · obtain ⟨g, t, a, b, c, cov, gs, cs, p, q, rfl, hg, ht, ha, hb, m, hc, hp, k⟩ := h
    have hn1 := m.good.n1
    have hq1 := hp.q1
    have hq0 := hp.q0
    have i1 : atI (iv [p, q]) 1 = some (V.int q) := int_at (j := 1) rfl rfl
    refine ⟨_, pss_cons (ps_set (i := 4) sc_best_by.nd rfl (.inl rfl) (pe_call (ok_worths_by T) (hr.mono (by decide)) rfl T.worths_by.m T.worths_by.F.kp T.worths_by.b .nil pass0 (pa_cons (pv 1) (pa_cons (pv 2) (pa_cons (pv 3) pa_nil)))))
      (pss_cons (ps_set (i := 5) sc_best_by.nd rfl (.inl rfl) (pe_call (ok_best_pits T) hr rfl T.best_pits.m T.best_pits.F.kp T.best_pits.b .nil pass0 (pa_cons (pv 0) (pa_cons (pv 4) pa_nil))))
      (pss_one (ps_ret (pe_tup (pa_cons (pe_call (ok_lowest T) (hr.mono (by decide)) rfl T.lowest.m T.lowest.F.kp T.lowest.b .nil pass0 (pa_cons
          (pe_call (ok_sum_of T) (hr.mono (by decide)) rfl T.sum_of.m T.sum_of.F.kp T.sum_of.b .nil pass0 (pa_cons (pv 4) (pa_cons (pe_ix ix_list (pv 5) pe_int (fun _ _ => rfl)) pa_nil)))
          (pa_cons (pe_ix ix_tup (pv 3) pe_int (fun _ _ => rfl)) pa_nil)))
        (pa_cons (pe_ix ix_list (pv 5) pe_int (fun _ _ => rfl)) (pa_cons (pe_ix ix_list (pv 5) (pe_un un_neg pe_int) (fun _ _ => rfl)) pa_nil))))))), ?_⟩
    refine ⟨_, rfl, _, rfl, _, rfl, a, b, c, cov, gs, cs, p, q, rfl, ha, hb, m, hc, fun H1 r s1 hr1 => ?_⟩
    refine ⟨_, rfl, _, rfl, g, t, r, cov, _, rfl, hg.same s1, ht.same s1, m.good, hr1, m.wl p q, fun H2 f s2 ⟨as, hf, hps⟩ => ?_⟩
    have s12 := s1.trans s2
    have hne := bestOf_ne (ws := worthsOf gs cs p q) (pits_ne m.good)
    have hin : ∀ l ∈ bestOf (worthsOf gs cs p q) (srt (pitsN cov cov.length)), l ∈ lotsN cov.length := fun l hl => pits_lots m.good (List.mem_filter.mp hl).1
    generalize hbe : bestOf (worthsOf gs cs p q) (srt (pitsN cov cov.length)) = best at *
    have hpos := List.length_pos_iff.mpr hne
    have h0 : best[0]? = some best[0] := List.getElem?_eq_getElem hpos
    have h1 : best[best.length - 1]? = some (best[best.length - 1]'(by omega)) := List.getElem?_eq_getElem (by omega)
    obtain ⟨a0, ha0, t0⟩ := paired_right hps h0
    obtain ⟨a1, ha1, t1⟩ := paired_right hps h1
    generalize best[0] = l0 at *
    generalize best[best.length - 1]'(by omega) = l1 at *
    have hl0 := hin l0 (List.mem_of_getElem? h0)
    have hll := lotsN_len hl0
    have j0 : atI (as.map V.ref) 0 = some (V.ref a0) := at_of (j := 0) rfl (ref_get ha0)
    have j1 : atI (as.map V.ref) (-1) = some (V.ref a1) := atI_neg1 (by rw [List.length_map, paired_len hps]; exact ref_get ha1)
    refine ⟨_, rfl, _, rfl, f, _, _, _, rfl, rfl, SqL.of hf, j0, r, a0, _, l0, rfl, hr1.same s2, t0, by omega, fun o ho => ?_, fun H3 s3 => ?_⟩
    · rw [m.wl]
      exact lotsN_mem hl0 o ho
    · have s13 := s12.trans s3
      refine ⟨_, rfl, c, _, _, _, rfl, rfl, (hc.same s13).sq, i1, _, q, rfl, by omega, by omega, fun H4 u s4 hu => ?_⟩
      have s24 := s3.trans s4
      refine ⟨_, rfl, f, _, _, _, rfl, rfl, SqL.of (s24 _ _ hf), j0, _, rfl, _, rfl, f, _, _, _, rfl, rfl, SqL.of (s24 _ _ hf), j1, by show 3 ≤ sizeLine; decide, fun z hz => ?_⟩
      have sz : Same H4 (upd H4 z (.tup [.ref u, .ref a0, .ref a1])) := same_new hz
      exact k _ z ((s12.trans s24).trans sz) ⟨l0, l1, u, a0, a1, h0, h1, upd_same, hu.same sz, (t0.same s24).same sz, (t1.same s24).same sz⟩
theorem ok_best_at (T : Txt K mg e) : FnOk P w K mg base CX0 6 e.a_best_at e.d_best_at p_best_at (spBestBy e.C) := by
  refine T.best_at.F.ok sc_best_at (fun vs H Q E h => ?_) (fun cdv A outer s H vs Q E hr h => ?_)
  · obtain ⟨g, t, a, b, c, cov, gs, cs, p, q, rfl, _⟩ := h
    rfl
  · obtain ⟨g, t, a, b, c, cov, gs, cs, p, q, rfl, hg, ht, ha, hb, m, hc, hp, k⟩ := h
    refine ⟨_, pss_cons (ps_expr (pe_call (ok_need_both T) (hr.mono (by decide)) rfl T.need_both.m T.need_both.F.kp T.need_both.b .nil pass0 (pa_cons (pv 0) (pa_cons (pv 1) (pa_cons (pv 2) pa_nil)))))
      (pss_cons (ps_expr (pe_call (ok_need_price T) (hr.mono (by decide)) rfl T.need_price.m T.need_price.F.kp T.need_price.b .nil pass0 (pa_cons (pv 3) pa_nil)))
      (pss_one (ps_ret (pe_call (ok_best_by T) hr rfl T.best_by.m T.best_by.F.kp T.best_by.b .nil pass0 (pa_cons (pv 0) (pa_cons (pv 1) (pa_cons (pv 2) (pa_cons (pv 3) pa_nil)))))))), ?_⟩
    refine ⟨_, rfl, _, rfl, _, rfl, g, t, a, b, cov, gs, cs, rfl, hg, ht, ha, hb, m, fun H1 s1 => ?_⟩
    refine ⟨_, rfl, c, p, q, rfl, hc.same s1, hp, ?_⟩
    exact ⟨_, rfl, _, rfl, _, rfl, _, rfl, g, t, a, b, c, cov, gs, cs, p, q, rfl, hg.same s1, ht.same s1, ha.same s1, hb.same s1, m, hc.same s1, hp, fun H2 r s2 h2 => k _ r (s1.trans s2) h2⟩
end
end Pk
namespace Pk
open PySem PySem.Spec PyProof.Rows L2
/-- the script: known to its object, or of the written part -/
def Scr (K : PySem.W.Frag) (H : Hp) (a : Addr) (xs : List V) : Prop := (∃ o, H a = some (.frz o (.lst xs))) ∨ SqL K (fun _ => none) a xs
theorem Scr.sq {K : PySem.W.Frag} {H : Hp} {a : Addr} {xs : List V} (h : Scr K H a xs) : SqL K H a xs := by
  rcases h with ⟨o, h⟩ | h
  · exact .inl (.inr ⟨o, h⟩)
  · rcases h with h | h
    · rcases h with h | ⟨o, h⟩
      · cases h
      · cases h
    · exact .inr h
theorem Scr.of {K : PySem.W.Frag} {H : Hp} {a : Addr} {xs : List V} (hO : Only H) (h : SqL K H a xs) : Scr K H a xs := by
  rcases h with h | h
  · rcases h with h | ⟨o, h⟩
    · rcases hO a with q | ⟨o, ys, q⟩
      · rw [q] at h; cases h
      · rw [q] at h; cases h
    · exact .inl ⟨o, h⟩
  · exact .inr (.inr h)
theorem Scr.step {K : PySem.W.Frag} {H H' : Hp} {a : Addr} {xs : List V} (h : Scr K H a xs) (k : ∀ b o u, H b = some (.frz o u) → H' b = some (.frz o u)) : Scr K H' a xs := by
  rcases h with ⟨o, h⟩ | h
  · exact .inl ⟨o, k _ _ _ h⟩
  · exact .inr h
/-- the row that draws: at r, its script at a -/
def Row (K : PySem.W.Frag) (H : Hp) (r a : Addr) (ns : List Int) : Prop := (∃ (i : Nat) (h x : Int), H r = some (.lst [.ref a, .int (i : Int), .int h, .int x])) ∧ Scr K H a (iv ns) ∧ ns.length ≤ 63
theorem Row.same {K : PySem.W.Frag} {H H' : Hp} {r a : Addr} {ns : List Int} (h : Row K H r a ns) (s : Same H H') : Row K H' r a ns := by
  obtain ⟨⟨i, g, x, hr⟩, hs, hl⟩ := h
  exact ⟨⟨i, g, x, s _ _ hr⟩, hs.step fun b o u q => s b _ q, hl⟩
theorem Row.kp {K : PySem.W.Frag} {H H' : Hp} {r a : Addr} {ns : List Int} (h : Row K H r a ns) (s : But r H H') : Kp H H' := by
  obtain ⟨⟨i, g, x, hr⟩, _⟩ := h
  exact Kp.but hr s
theorem Row.ne {K : PySem.W.Frag} {H : Hp} {r a p : Addr} {ns : List Int} (h : Row K H r a ns) (hp : H p = none) : p ≠ r := by
  obtain ⟨⟨i, g, x, hr⟩, _⟩ := h
  exact (ne_of_none hr hp).symm
/-- another list is changed -/
theorem Row.set {K : PySem.W.Frag} {H : Hp} {r a p : Addr} {ns : List Int} {xs ys : List V} (h : Row K H r a ns) (hp : H p = some (.lst xs)) (n : p ≠ r) : Row K (L2.upd H p (.lst ys)) r a ns := by
  obtain ⟨⟨i, g, x, hr⟩, hs, hl⟩ := h
  exact ⟨⟨i, g, x, by rw [upd_ne n.symm]; exact hr⟩, hs.step fun b o u q => by rw [upd_ne (ne_of q hp (by intro z; cases z))]; exact q, hl⟩
theorem but_set {r p : Addr} {H H' : Hp} {o : HO} (s : But r H H') (h : H p = none) : But r H (L2.upd H' p o) := s.updN h

def spTaken (K : PySem.W.Frag) : Sp := fun vs H Q _ => ∃ (r a : Addr) (ns : List Int) (m : Int), vs = [.ref r, .int m] ∧ Row K H r a ns ∧ 0 < m ∧ m < 1073741824 ∧ ∀ t H', 0 ≤ t → t < m → But r H H' → Row K H' r a ns → Q (.int t) H'
section
variable {P : Program} {w : World} {K : PySem.W.Frag} {mg : Str → Option Value} {base : Heap} {e : Lay}
theorem ok_taken (T : Txt K mg e) : FnOk P w K mg base CX0 1 e.a_l_taken e.d_l_taken p_l_taken (spTaken K) := by
  refine T.l_taken.F.ok sc_l_taken (fun vs H Q E h => ?_) (fun cdv A outer s H vs Q E hr h => ?_)
  · obtain ⟨r, a, ns, m, rfl, _⟩ := h
    rfl
  · obtain ⟨r, a, ns, m, rfl, ⟨⟨i, h, x, hR⟩, hS, hl⟩, m0, m1, k⟩ := h
    refine ⟨_, pss_cons (ps_if (pt_cmpR op_gt (pe_ix ix_list (pv 0) pe_int (fun _ _ => rfl)) pe_int (nomark _))
        (pss_cons (ps_set (i := 2) sc_l_taken.nd rfl (.inl rfl) (pe_op op_mod (pe_callTy call_int1 (by rfl) T.no_int bt_int (pa_cons (pe_ix ix_list (pv 0) pe_int (fun _ _ => rfl)) pa_nil)) (pv 1)))
        (pss_cons (ps_asg (pe_op op_fdiv (pe_ix ix_list (pv 0) pe_int (fun _ _ => rfl)) (pv 1)) (pg_sub (pv 0) pe_int set_list)) (pss_one (ps_ret (pv 2))))) pss_nil)
      (pss_cons (ps_asg (pe_op op_add (pe_ix ix_list (pv 0) pe_int (fun _ _ => rfl)) pe_int) (pg_sub (pv 0) pe_int set_list))
      (pss_cons (ps_if (pt_cmpR op_gt (pe_ix ix_list (pv 0) pe_int (fun _ _ => rfl)) (pe_callB call_len_seq (by rfl) T.no_len PySem.boot_len (pa_cons (pe_ix ix_list (pv 0) pe_int (fun _ _ => rfl)) pa_nil)) (nomark _))
        (pss_cons (ps_asg (pe_op op_mod (pe_callTy call_int1 (by rfl) T.no_int bt_int (pa_cons (pe_op op_add (pe_op op_mul (pe_ix ix_list (pv 0) pe_int (fun _ _ => rfl)) pe_int) pe_int) pa_nil)) pe_int) (pg_sub (pv 0) pe_int set_list))
        (pss_one (ps_ret (pe_op op_mod (pe_callTy call_int1 (by rfl) T.no_int bt_int (pa_cons (pe_op op_fdiv (pe_ix ix_list (pv 0) pe_int (fun _ _ => rfl)) pe_int) pa_nil)) (pv 1))))) pss_nil)
      (pss_cons (ps_set (i := 3) sc_l_taken.nd rfl (.inl rfl) (pe_ix ix_list (pe_ix ix_list (pv 0) pe_int (fun _ _ => rfl)) (pe_op op_sub (pe_ix ix_list (pv 0) pe_int (fun _ _ => rfl)) pe_int) (fun _ _ => rfl)))
      (pss_cons (ps_asg (pe_op op_mod (pe_callTy call_int1 (by rfl) T.no_int bt_int (pa_cons (pe_op op_add (pe_op op_add (pe_op op_mul (pe_ix ix_list (pv 0) pe_int (fun _ _ => rfl)) pe_int) (pv 3)) pe_int) pa_nil)) pe_int) (pg_sub (pv 0) pe_int set_list))
      (pss_cons (ps_if (pt_cmpR op_ge (pv 3) (pe_op op_pow pe_int pe_int) (nomark _)) (pss_one (ps_asg (pe_op op_fdiv (pv 3) (pv 1)) (pg_sub (pv 0) pe_int set_list))) pss_nil)
      (pss_one (ps_ret (pe_op op_mod (pe_callTy call_int1 (by rfl) T.no_int bt_int (pa_cons (pv 3) pa_nil)) (pv 1))))))))), ?_⟩
    refine ⟨_, rfl, r, _, _, _, rfl, rfl, SqL.of hR, rfl, _, _, rfl, rfl, _, rfl, ?_⟩
    refine ite2 (fun _ => ?_) (fun _ => ?_)
    · -- a great cell's rest
      refine ⟨_, rfl, r, _, _, _, rfl, rfl, SqL.of hR, rfl, .inl ⟨_, rfl, _, rfl, _, _, rfl, rfl, m0, ?_⟩⟩
      refine ⟨_, rfl, r, _, _, _, rfl, rfl, SqL.of hR, rfl, _, rfl, _, _, rfl, rfl, ⟨m0, m1⟩, ?_⟩
      refine ⟨_, rfl, r, _, _, 3, rfl, rfl, hR, rfl, ?_⟩
      refine ⟨_, rfl, ?_⟩
      refine k _ _ (Int.emod_nonneg _ (by omega)) (Int.emod_lt_of_pos _ m0) (But.refl r H).upd ⟨⟨i, h, x / m, upd_same⟩, hS.step fun c o u q => (But.refl r H).upd c _ (ne_of q hR (by intro z; cases z)) q, hl⟩
    · have hS1 : ∀ {H1 : Hp}, But r H H1 → Scr K H1 a (iv ns) := fun b => hS.step fun c o u q => b c _ (ne_of q hR (by intro z; cases z)) q
      refine ⟨_, rfl, r, _, _, _, rfl, rfl, SqL.of hR, rfl, _, _, rfl, rfl, ?_⟩
      refine ⟨_, rfl, r, _, _, 1, rfl, rfl, hR, rfl, ?_⟩
      have b1 := (But.refl r H).upd (o := .lst [.ref a, .int ((i : Int) + 1), .int h, .int x])
      have r1 : (upd H r (.lst [.ref a, .int ((i : Int) + 1), .int h, .int x])) r = _ := upd_same
      refine ⟨_, rfl, r, _, _, _, rfl, rfl, SqL.of r1, rfl, _, rfl, r, _, _, _, rfl, rfl, SqL.of r1, rfl, a, _, rfl, .inl (hS1 b1).sq, _, _, rfl, rfl, _, rfl, ?_⟩
      refine ite2 (fun hyes => ?_) (fun hno => ?_)
      · refine ⟨_, rfl, r, _, _, _, rfl, rfl, SqL.of r1, rfl, _, _, rfl, rfl, .inr ⟨by decide, by decide⟩, _, _, rfl, rfl, .inl ⟨_, rfl, _, _, rfl, rfl, by show (0 : Int) < 2147483647; decide, ?_⟩⟩
        refine ⟨_, rfl, r, _, _, 2, rfl, rfl, r1, rfl, ?_⟩
        refine ⟨_, rfl, r, _, _, _, rfl, rfl, SqL.of upd_same, rfl, _, _, rfl, rfl, ⟨by decide, by decide⟩, .inl ⟨_, rfl, _, rfl, _, _, rfl, rfl, m0, ?_⟩⟩
        exact k _ _ (Int.emod_nonneg _ (by omega)) (Int.emod_lt_of_pos _ m0) b1.upd ⟨⟨i + 1, _, x, upd_same⟩, hS1 b1.upd, hl⟩
      · have hi : i < ns.length := by
          rw [decide_eq_true_eq, List.length_map] at hno
          omega
        refine ⟨_, rfl, r, _, _, _, rfl, rfl, SqL.of r1, rfl, _, rfl, r, _, _, _, rfl, rfl, SqL.of r1, rfl, _, _, rfl, rfl, a, _, _, _, rfl, rfl, (hS1 b1).sq, int_at (j := i) (by omega) (List.getElem?_eq_getElem hi), ?_⟩
        generalize ns[i] = c
        refine ⟨_, rfl, r, _, _, _, rfl, rfl, SqL.of r1, rfl, _, _, rfl, rfl, .inr ⟨by decide, by decide⟩, _, rfl, _, _, rfl, rfl, _, _, rfl, rfl, .inl ⟨_, rfl, _, _, rfl, rfl, by show (0 : Int) < 2147483647; decide, ?_⟩⟩
        refine ⟨_, rfl, r, _, _, 2, rfl, rfl, r1, rfl, ?_⟩
        refine ⟨_, rfl, _, _, rfl, rfl, ⟨by decide, by decide, by decide⟩, _, _, rfl, rfl, _, rfl, ?_⟩
        refine ite2 (fun _ => ?_) (fun _ => ?_)
        · refine ⟨_, rfl, _, rfl, _, _, rfl, rfl, ⟨m0, m1⟩, ?_⟩
          refine ⟨_, rfl, r, _, _, 3, rfl, rfl, upd_same, rfl, ?_⟩
          refine ⟨_, rfl, .inl ⟨_, rfl, _, rfl, _, _, rfl, rfl, m0, ?_⟩⟩
          exact k _ _ (Int.emod_nonneg _ (by omega)) (Int.emod_lt_of_pos _ m0) b1.upd.upd ⟨⟨i + 1, _, _, upd_same⟩, hS1 b1.upd.upd, hl⟩
        · refine ⟨_, rfl, .inl ⟨_, rfl, _, rfl, _, _, rfl, rfl, m0, ?_⟩⟩
          exact k _ _ (Int.emod_nonneg _ (by omega)) (Int.emod_lt_of_pos _ m0) b1.upd ⟨⟨i + 1, _, _, upd_same⟩, hS1 b1.upd, hl⟩
end
def spNumbers (K : PySem.W.Frag) : Sp := fun vs H Q _ => ∃ (r a : Addr) (ns : List Int) (n : Nat) (hi : Int), vs = [.ref r, .int (n : Int), .int hi] ∧ Row K H r a ns ∧ n ≤ 6 ∧ 1 ≤ hi ∧ hi ≤ 1000 ∧
  ∀ H' p xs, But r H H' → Row K H' r a ns → TI H' p xs → xs.length = n → (∀ x ∈ xs, 0 ≤ x ∧ x ≤ hi) → Q (.ref p) H'
def spLow : Sp := fun vs H Q _ => ∃ a b : Int, vs = [.int a, .int b] ∧ 0 < b ∧ b < 1073741824 ∧ ∀ H' p, Same H H' → TI H' p [(lowP a b).1, (lowP a b).2] → Q (.ref p) H'
def spPrice (K : PySem.W.Frag) : Sp := fun vs H Q _ => ∃ (r a : Addr) (ns : List Int), vs = [.ref r] ∧ Row K H r a ns ∧ ∀ H' p x y, But r H H' → Row K H' r a ns → TI H' p [x, y] → Price x y → Q (.ref p) H'
def spPick (K : PySem.W.Frag) : Sp := fun vs H Q _ => ∃ (r a t : Addr) (ns : List Int) (ls : List (List Int)), vs = [.ref r, .ref t] ∧ Row K H r a ns ∧ LT H t ls ∧ t ≠ r ∧ 0 < ls.length ∧ ls.length ≤ 1000 ∧
  ∀ H' p l, But r H H' → Row K H' r a ns → l ∈ ls → TI H' p l → Q (.ref p) H'
/-- behind each turn of the draw of numbers -/
def NumI (K : PySem.W.Frag) (H : Hp) (r a : Addr) (ns : List Int) (n : Nat) (hi st : Int) (f : Addr) (i : Nat) (σ : L2.St) (H' : Hp) : Prop := ∃ (v5 v6 : Option V) (xs : List Int),
  σ = [some (.ref r), some (.int (n : Int)), some (.int hi), some (.int st), some (.ref f), v5, v6] ∧ But r H H' ∧ Row K H' r a ns ∧ H' f = some (.lst (iv xs)) ∧ xs.length = i ∧ ∀ x ∈ xs, 0 ≤ x ∧ x ≤ hi
theorem five_at {t1 t2 t3 t4 st : Int} (h0 : 0 ≤ st) (h1 : st < 5) (p1 : 0 ≤ t1) (p2 : 0 ≤ t2) (p3 : 0 ≤ t3) (p4 : 0 ≤ t4) : ∃ v, atI (iv [t1, t2, t3, t4, 1]) st = some (.int v) ∧ 0 ≤ v := by
  have : st = 0 ∨ st = 1 ∨ st = 2 ∨ st = 3 ∨ st = 4 := by omega
  rcases this with z | z | z | z | z
  · exact ⟨t1, int_at (j := 0) z rfl, p1⟩
  · exact ⟨t2, int_at (j := 1) z rfl, p2⟩
  · exact ⟨t3, int_at (j := 2) z rfl, p3⟩
  · exact ⟨t4, int_at (j := 3) z rfl, p4⟩
  · exact ⟨1, int_at (j := 4) z rfl, by decide⟩
section
variable {P : Program} {w : World} {K : PySem.W.Frag} {mg : Str → Option Value} {base : Heap} {e : Lay}
theorem ok_low (T : Txt K mg e) : FnOk P w K mg base CX0 1 e.a_l_low e.d_l_low p_l_low spLow := by
  refine T.l_low.F.ok sc_l_low (fun vs H Q E h => ?_) (fun cdv A outer s H vs Q E hr h => ?_)
  · obtain ⟨a, b, rfl, _⟩ := h
    rfl
  · obtain ⟨a, b, rfl, hb, hm, k⟩ := h
    have g0 := gcd_pos (a := a) hb
    have g1 := gcd_le (a := a) hb
    refine ⟨_, pss_cons (ps_par (i := 2) (j := 3) rfl sc_l_low.nd rfl rfl (by decide) rfl rfl (pa_cons (pe_callB call_abs (by rfl) T.no_abs bt_abs (pa_cons (pv 0) pa_nil)) (pa_cons (pe_callB call_abs (by rfl) T.no_abs bt_abs (pa_cons (pv 1) pa_nil)) pa_nil)) rfl)
      (pss_cons (ps_while PassesOwn.never (pt_cmpR op_ne (pv 3) pe_int (nomark _))
        (pss_one (ps_par (i := 2) (j := 3) rfl sc_l_low.nd rfl rfl (by decide) rfl rfl (pa_cons (pv 3) (pa_cons (pe_op op_mod (pv 2) (pv 3)) pa_nil)) rfl)))
      (pss_one (ps_ret (pe_tup (pa_cons (pe_op op_fdiv (pv 0) (pv 2)) (pa_cons (pe_op op_fdiv (pv 1) (pv 2)) pa_nil)))))), ?_⟩
    refine ⟨_, rfl, a, rfl, _, rfl, b, rfl, _, _, rfl, ?_⟩
    refine while_by (fun σ H' => H' = H ∧ ∃ x y : Int, σ = [some (.int a), some (.int b), some (.int x), some (.int y)] ∧ 0 ≤ x ∧ 0 ≤ y ∧ Int.gcd x y = Int.gcd a b) (fun σ _ => match σ with | [_, _, _, some (.int y)] => y.toNat | _ => 0)
      ⟨rfl, _, _, rfl, by split <;> omega, by split <;> omega, gcd_abs⟩ ?_ (fun σ H Q Q' hq ⟨v, hv, hs, k, hk, q⟩ => ⟨v, hv, hs, k, hk, hq _ _ q⟩)
    rintro σ H' ⟨rfl, x, y, rfl, hx, hy, hg⟩
    refine ⟨_, rfl, rfl, _, rfl, ?_⟩
    rw [dec_int]
    refine ite2 (fun hyes => ?_) (fun hno => ?_)
    · have hy0 : y ≠ 0 := by
        intro q
        rw [q] at hyes
        exact absurd hyes (by decide)
      refine ⟨_, rfl, _, rfl, _, rfl, _, _, rfl, rfl, by omega, _, _, rfl, ⟨rfl, y, x % y, rfl, hy, Int.emod_nonneg _ hy0, by rw [gcd_step]; exact hg⟩, ?_⟩
      show (x % y).toNat < y.toNat
      have := Int.emod_lt_of_pos x (b := y) (by omega)
      omega
    · have hy0 : y = 0 := by
        by_cases q : y = 0
        · exact q
        · refine absurd ?_ hno
          rw [beq_eq_false_iff_ne.mpr q]
          rfl
      have hxg : x = ((Int.gcd a b : Nat) : Int) := by
        rw [hy0, Int.gcd_zero] at hg
        omega
      subst hxg
      refine ⟨_, rfl, _, rfl, _, _, rfl, rfl, ⟨g0, by omega⟩, _, rfl, _, rfl, _, _, rfl, rfl, ⟨g0, by omega⟩, by show 2 ≤ sizeLine; decide, fun p hp => ?_⟩
      exact k _ p (same_new hp) upd_same
theorem ok_numbers (T : Txt K mg e) : FnOk P w K mg base CX0 2 e.a_l_numbers e.d_l_numbers p_l_numbers (spNumbers K) := by
  refine T.l_numbers.F.ok sc_l_numbers (fun vs H Q E h => ?_) (fun cdv A outer s H vs Q E hr h => ?_)
  · obtain ⟨r, a, ns, n, hi, rfl, _⟩ := h
    rfl
  · obtain ⟨r, a, ns, n, hi, rfl, hR, hn, h1, h2, k⟩ := h
    have GT : FnOk P w K mg base CX0 1 e.a_l_taken e.d_l_taken p_l_taken (spTaken K) := ok_taken T
    refine ⟨_, pss_cons (ps_par (i := 3) (j := 4) rfl sc_l_numbers.nd rfl rfl (by decide) rfl rfl (pa_cons (pe_call GT hr rfl T.l_taken.m T.l_taken.F.kp T.l_taken.b .nil pass0 (pa_cons (pv 0) (pa_cons pe_int pa_nil))) (pa_cons (pe_lst pa_nil) pa_nil)) rfl)
      (pss_cons (ps_for PassesOwn.never rfl (pi_range1 (by rfl) T.no_range (pa_cons (pv 1) pa_nil)) (pg_name (i := 5) sc_l_numbers.nd rfl (.inl rfl))
        (pss_cons (ps_set (i := 6) sc_l_numbers.nd rfl (.inl rfl) (pe_lst
            (pa_cons (pe_call GT hr rfl T.l_taken.m T.l_taken.F.kp T.l_taken.b .nil pass0 (pa_cons (pv 0) (pa_cons (pe_op op_add (pv 2) pe_int) pa_nil)))
            (pa_cons (pe_call GT hr rfl T.l_taken.m T.l_taken.F.kp T.l_taken.b .nil pass0 (pa_cons (pv 0) (pa_cons pe_int pa_nil)))
            (pa_cons (pe_op op_mul (pe_call GT hr rfl T.l_taken.m T.l_taken.F.kp T.l_taken.b .nil pass0 (pa_cons (pv 0) (pa_cons pe_int pa_nil))) (pv 2))
            (pa_cons (pe_call GT hr rfl T.l_taken.m T.l_taken.F.kp T.l_taken.b .nil pass0 (pa_cons (pv 0) (pa_cons pe_int pa_nil)))
            (pa_cons pe_int pa_nil)))))))
        (pss_one (ps_expr (pe_bm PySem.F.plainAttrs_list PySem.F.slot_list_append PySem.F.type_list_append mt_append (pv 4) (pa_cons
          (pe_ifExp (pt_cmpR op_gt (pe_call GT hr rfl T.l_taken.m T.l_taken.F.kp T.l_taken.b .nil pass0 (pa_cons (pv 0) (pa_cons pe_int pa_nil))) pe_int (nomark _))
            (pe_callB (call_min2 rfl) (by rfl) T.no_min bt_min (pa_cons (pv 2) (pa_cons (pe_ix ix_list (pv 6) (pv 3) (fun _ _ => rfl)) pa_nil))) pe_int) pa_nil))))))
      (pss_one (ps_ret (pe_callTy call_tuple_of (by rfl) T.no_tuple bt_tuple (pa_cons (pv 4) pa_nil))))), ?_⟩
    refine ⟨_, rfl, r, a, ns, 5, rfl, hR, by decide, by decide, fun st Ha s0 s1 ba Ra => ?_⟩
    refine ⟨Nat.zero_le _, fun f hf => ?_⟩
    have nfr : f ≠ r := Ra.ne hf
    refine ⟨_, _, rfl, _, rfl, _, rfl, by omega, by omega, for_range (lo := 0) (n := ((n : Nat) : Int).toNat) (NumI K H r a ns n hi st f)
      ⟨none, none, [], rfl, ba.trans (But.of (same_new hf)), Ra.same (same_new hf), upd_same, rfl, fun x hx => nomatch hx⟩ ?_ ?_⟩
    · rintro i σ H1 hi' ⟨v5, v6, xs, rfl, b1, R1, hF, hx, hb⟩
      have hi6 : i < 6 := by omega
      refine ⟨_, rfl, _, rfl, _, _, rfl, rfl, r, a, ns, _, rfl, R1, by omega, by omega, fun t1 H2 p1 q1 b2 R2 => ?_⟩
      refine ⟨_, rfl, r, a, ns, 3, rfl, R2, by decide, by decide, fun t2 H3 p2 q2 b3 R3 => ?_⟩
      refine ⟨_, rfl, r, a, ns, 2, rfl, R3, by decide, by decide, fun t3 H4 p3 q3 b4 R4 => ?_⟩
      refine ⟨_, rfl, _, _, rfl, rfl, .inl ⟨by omega, by omega⟩, ?_⟩
      refine ⟨_, rfl, r, a, ns, 6, rfl, R4, by decide, by decide, fun t4 H5 p4 q4 b5 R5 => ?_⟩
      refine ⟨by show 5 ≤ sizeLine; decide, fun l hl => ?_⟩
      have b15 := ((b2.trans b3).trans b4).trans b5
      have hF5 := b15 _ _ nfr hF
      have nlr : l ≠ r := R5.ne hl
      have hF6 : (upd H5 l (.lst [.int t1, .int t2, .int (t3 * hi), .int t4, .int 1])) f = some (.lst (iv xs)) := by
        rw [upd_ne (ne_of_none hF5 hl)]
        exact hF5
      have R6 : Row K (upd H5 l (.lst [.int t1, .int t2, .int (t3 * hi), .int t4, .int 1])) r a ns := R5.same (same_new hl)
      have b16 : But r H (upd H5 l (.lst [.int t1, .int t2, .int (t3 * hi), .int t4, .int 1])) := (b1.trans b15).trans (But.of (same_new hl))
      refine ⟨_, rfl, .inl ⟨rfl, _, SqL.of hF6⟩, ?_⟩
      refine ⟨_, rfl, r, a, ns, 4, rfl, R6, by decide, by decide, fun t5 H7 p5 q5 b7 R7 => ⟨_, _, rfl, rfl, _, rfl, ?_⟩⟩
      have hF7 := b7 _ _ nfr hF6
      have hL7 := b7 _ _ nlr (upd_same (H := H5) (a := l) (o := .lst [.int t1, .int t2, .int (t3 * hi), .int t4, .int 1]))
      have t3h : 0 ≤ t3 * hi := by
        have : t3 = 0 ∨ t3 = 1 := by omega
        rcases this with z | z
        · rw [z, Int.zero_mul]; omega
        · rw [z, Int.one_mul]; omega
      have b17 := b16.trans b7
      have hf0 : H f = none := ba.free hf nfr
      have fin : ∀ y : Int, 0 ≤ y → y ≤ hi → NumI K H r a ns n hi st f (i + 1) [some (V.ref r), some (V.int (n : Int)), some (V.int hi), some (V.int st), some (V.ref f), some (V.int (0 + (i : Int))), some (V.ref l)] (upd H7 f (.lst (iv xs ++ [.int y]))) := fun y y0 y1 => by
        refine ⟨_, _, xs ++ [y], rfl, b17.updN hf0, R7.set hF7 nfr, by rw [upd_same, iv_append]; rfl, by rw [List.length_append, hx]; rfl, fun x hm => ?_⟩
        rcases List.mem_append.mp hm with q | q
        · exact hb x q
        · rw [List.mem_singleton.mp q]
          exact ⟨y0, y1⟩
      have hsz : (iv xs).length < sizeLine := lt_line (by rw [List.length_map]; omega)
      refine ite2 (fun _ => ?_) (fun _ => ?_)
      · obtain ⟨v, hv, v0⟩ := five_at (st := st) (t1 := t1) (t2 := t2) (t3 := t3 * hi) (t4 := t4) s0 s1 p1 p2 t3h p4
        refine ⟨_, rfl, _, rfl, _, rfl, l, _, _, _, rfl, rfl, SqL.of hL7, hv, hi, v, rfl, f, _, _, rfl, rfl, hF7, hsz, ?_⟩
        refine fin _ ?_ ?_
        · split <;> omega
        · split <;> omega
      · exact ⟨f, _, _, rfl, rfl, hF7, hsz, fin 0 (Int.le_refl 0) (by omega)⟩
    · rintro σ H1 ⟨v5, v6, xs, rfl, b1, R1, hF, hx, hb⟩
      refine ⟨_, rfl, f, _, rfl, .inl ⟨SqL.of hF, fun p hp => ?_⟩⟩
      exact k _ p xs (b1.trans (But.of (same_new hp))) (R1.same (same_new hp)) upd_same (by rw [hx, Int.toNat_natCast]) hb
theorem ok_pick (T : Txt K mg e) : FnOk P w K mg base CX0 2 e.a_l_pick e.d_l_pick p_l_pick (spPick K) := by
  refine T.l_pick.F.ok sc_l_pick (fun vs H Q E h => ?_) (fun cdv A outer s H vs Q E hr h => ?_)
  · obtain ⟨r, a, t, ns, ls, rfl, _⟩ := h
    rfl
  · obtain ⟨r, a, t, ns, ls, rfl, hR, ⟨as, ht, hp⟩, ntr, h0, h1, k⟩ := h
    have GT : FnOk P w K mg base CX0 1 e.a_l_taken e.d_l_taken p_l_taken (spTaken K) := ok_taken T
    refine ⟨_, pss_one (ps_ret (pe_ix ix_list (pv 1) (pe_call GT hr rfl T.l_taken.m T.l_taken.F.kp T.l_taken.b .nil pass0 (pa_cons (pv 0) (pa_cons (pe_callB call_len_seq (by rfl) T.no_len PySem.boot_len (pa_cons (pv 1) pa_nil)) pa_nil))) (fun _ _ => rfl))), ?_⟩
    have el := paired_len hp
    refine ⟨_, rfl, _, rfl, _, rfl, t, _, rfl, .inl (SqL.of ht), r, a, ns, _, rfl, hR, by rw [List.length_map]; omega, by rw [List.length_map]; omega, fun j H1 j0 j1 b1 R1 => ?_⟩
    rw [List.length_map] at j1
    have hj : ls[j.toNat]? = some (ls[j.toNat]'(by omega)) := List.getElem?_eq_getElem (by omega)
    obtain ⟨q, hq, hTI⟩ := paired_right hp hj
    refine ⟨t, _, _, _, rfl, rfl, SqL.of (b1 _ _ ntr ht), at_of (j := j.toNat) (by omega) (ref_get hq), ?_⟩
    exact k _ q _ b1 R1 (List.mem_of_getElem? hj) (hTI.kp (hR.kp b1))
end
end Pk
namespace Pk
open PySem PySem.Spec PyProof.Rows L2
def spLots : Sp := fun vs H Q _ => ∃ n : Nat, vs = [.int (n : Int)] ∧ n ≤ 6 ∧ ∀ H' p, Same H H' → H p = none → LT H' p (srt (lotsN n)) → Q (.ref p) H'
def spIsPit : Sp := fun vs H Q _ => ∃ (t a : Addr) (cov : List (List Int)) (l : List Int), vs = [.ref t, .ref a] ∧ TT H t cov ∧ Good cov ∧ TI H a l ∧ l.length ≤ 1000 ∧ (∀ o ∈ l, 0 ≤ o ∧ o < (cov.length : Int)) ∧ ∀ H', Same H H' → Q (.bl (isPit cov l)) H'
def spPits : Sp := fun vs H Q _ => ∃ (t : Addr) (cov : List (List Int)), vs = [.ref t] ∧ TT H t cov ∧ Good cov ∧ ∀ H' p, Same H H' → LT H' p (srt (pitsN cov cov.length)) → Q (.ref p) H'
def spLBest : Sp := fun vs H Q _ => ∃ (t a : Addr) (cov : List (List Int)) (ws : List Int), vs = [.ref t, .ref a] ∧ TT H t cov ∧ Good cov ∧ TI H a ws ∧ ws.length = cov.length ∧ ∀ H' p, Same H H' → LT H' p (bestOf ws (srt (pitsN cov cov.length))) → Q (.ref p) H'
theorem eqv_nil (os : List Int) : PyData.eqv (.list (os.map PyData.int)) (.list []) = os.isEmpty := by
  cases os with
  | nil => rfl
  | cons o os => rfl
theorem fits_iff {cov : List (List Int)} {c l : List Int} {i : Nat} (hc : cov[i]? = some c) : (c.filter fun o => !l.contains o).isEmpty = fits cov (i : Int) l := by
  unfold fits
  rw [needs_at hc, Bool.eq_iff_iff, List.isEmpty_iff, List.filter_eq_nil_iff, List.all_eq_true]
  constructor
  · intro h o ho
    have q := h o ho
    cases e : l.contains o with
    | true => rfl
    | false => rw [e] at q; exact absurd rfl q
  · intro h o ho q
    rw [h o ho] at q
    cases q
section
variable {P : Program} {w : World} {K : PySem.W.Frag} {mg : Str → Option Value} {base : Heap} {e : Lay}
theorem ok_l_sum (T : Txt K mg e) : FnOk P w K mg base CX0 1 e.a_l_sum e.d_l_sum p_l_sum spSumOf := by
  refine T.l_sum.F.ok sc_l_sum (fun vs H Q E h => ?_) (fun cdv A outer s H vs Q E hr h => ?_)
  · obtain ⟨a, b, ws, l, rfl, _⟩ := h
    rfl
  · obtain ⟨a, b, ws, l, rfl, ha, hb, hl, ho, k⟩ := h
    refine ⟨_, pss_one (ps_ret (pe_callB (cr_sum rfl) (by rfl) T.no_sum bt_sum (pa_cons
      (pe_lc (own := [("_law_block", 2)]) (g := gName 2) (tt := tYes) rfl sc_l_sum.nd (piT K (pv 1)) (blkOk_by (N := n_l_sum) (sc := defScope s_l_sum) (by decide +kernel))
        (fun _ _ _ _ _ => pg_name (i := 2) sc_l_sum.nd rfl (Or.inl rfl)) (fun _ _ _ _ _ => pts_nil) (fun _ _ _ _ _ => pe_ix (ixT K) (pv 0) (pv 2) (fun _ _ => rfl))) pa_nil))), ?_⟩
    refine ⟨_, rfl, b, rfl, ⟨_, hb.sq⟩, fun D hD => ?_⟩
    refine lc_tup (K := K) (a := b) (xs := iv l) (fun i H' => Same H H' ∧ H' D = some (.lst (iv ((l.take i).map fun b => ws.getD b.toNat 0)))) ⟨same_new hD, upd_same⟩ (fun i H' _ ⟨s1, _⟩ => (hb.same s1).sq) ?_ ?_
    · rintro i x H' hx ⟨s1, h1⟩
      obtain ⟨o, hm, rfl⟩ := iv_at hx
      have hi := (List.getElem?_eq_some_iff.mp hm).1
      have hq := ho o (List.mem_of_getElem? hm)
      refine ⟨rfl, ?_⟩
      refine ⟨_, rfl, _, rfl, a, _, _, _, rfl, rfl, (ha.same s1).sq, ws_at hq.1 hq.2, ?_⟩
      refine ⟨_, h1, lt_line (by rw [List.length_map, List.length_map, List.length_take]; omega), same_upd s1 hD, ?_⟩
      rw [upd_same, take_snoc hm, List.map_append, iv_append]
      rfl
    · rintro H' ⟨s1, h1⟩
      rw [List.length_map, List.take_length] at h1
      exact ⟨D, _, rfl, SqL.of h1, k _ s1⟩
theorem ok_at (T : Txt K mg e) : FnOk P w K mg base CX0 1 e.a_l_at e.d_l_at p_l_at spWorthsBy := by
  refine T.l_at.F.ok sc_l_at (fun vs H Q E h => ?_) (fun cdv A outer s H vs Q E hr h => ?_)
  · obtain ⟨a, b, c, cov, gs, cs, p, q, rfl, _⟩ := h
    rfl
  · obtain ⟨a, b, c, cov, gs, cs, p, q, rfl, ha, hb, m, hc, k⟩ := h
    have hn1 := m.good.n1
    have hgl := m.gl
    have hcl := m.cl
    have hwl := m.wl p q
    have i0 : atI (iv [p, q]) 0 = some (V.int p) := int_at (j := 0) rfl rfl
    have i1 : atI (iv [p, q]) 1 = some (V.int q) := int_at (j := 1) rfl rfl
    refine ⟨_, pss_one (ps_ret (pe_callTy call_tuple_of (by rfl) T.no_tuple bt_tuple (pa_cons
      (pe_lc (own := [("_law_k", 3)]) (g := gName 3) (tt := tYes) rfl sc_l_at.nd (pi_range1 (by rfl) T.no_range (pa_cons (pe_callB call_len_seq (by rfl) T.no_len PySem.boot_len (pa_cons (pv 0) pa_nil)) pa_nil))
        (blkOk_by (N := n_l_at) (sc := defScope s_l_at) (by decide +kernel)) (fun _ _ _ _ _ => pg_name (i := 3) sc_l_at.nd rfl (Or.inl rfl)) (fun _ _ _ _ _ => pts_nil)
        (fun _ _ _ _ _ => pe_op op_sub (pe_op op_mul (pe_ix (ixT K) (pv 0) (pv 3) (fun _ _ => rfl)) (pe_ix (ixT K) (pv 2) pe_int (fun _ _ => rfl))) (pe_op op_mul (pe_ix (ixT K) (pv 1) (pv 3) (fun _ _ => rfl)) (pe_ix (ixT K) (pv 2) pe_int (fun _ _ => rfl))))) pa_nil))), ?_⟩
    refine ⟨_, rfl, a, _, rfl, .inr ha.sq, _, rfl, by rw [List.length_map]; omega, by rw [List.length_map]; omega, fun D hD => ?_⟩
    refine lc_range (lo := 0) (n := (((iv gs).length : Nat) : Int).toNat) (fun i H' => Same H H' ∧ H' D = some (.lst (iv ((worthsOf gs cs p q).take i)))) ⟨same_new hD, upd_same⟩ ?_ ?_
    · rintro i H' hi ⟨s1, h1⟩
      rw [List.length_map] at hi
      have hx : gs[i]? = some (gs[i]'(by omega)) := List.getElem?_eq_getElem (by omega)
      have hy : cs[i]? = some (cs[i]'(by omega)) := List.getElem?_eq_getElem (by omega)
      have bx := m.gb _ (List.mem_of_getElem? hx)
      have b_y := m.cb _ (List.mem_of_getElem? hy)
      generalize gs[i]'(by omega) = x2 at *
      generalize cs[i]'(by omega) = y2 at *
      refine ⟨rfl, ?_⟩
      refine ⟨_, rfl, _, rfl, a, _, _, _, rfl, rfl, (ha.same s1).sq, int_at (j := i) (by omega) hx, _, rfl, c, _, _, _, rfl, rfl, (hc.same s1).sq, i0, _, _, rfl, rfl, .inl ⟨by omega, by omega⟩, ?_⟩
      refine ⟨_, rfl, _, rfl, b, _, _, _, rfl, rfl, (hb.same s1).sq, int_at (j := i) (by omega) hy, _, rfl, c, _, _, _, rfl, rfl, (hc.same s1).sq, i1, _, _, rfl, rfl, .inl ⟨by omega, by omega⟩, _, _, rfl, rfl, ?_⟩
      refine ⟨iv ((worthsOf gs cs p q).take i), h1, lt_line (by rw [List.length_map, List.length_take]; omega), same_upd s1 hD, ?_⟩
      rw [upd_same, take_snoc (worths_at hx hy), iv_append]
      rfl
    · rintro H' ⟨s1, h1⟩
      rw [List.length_map, Int.toNat_natCast, hgl, ← hwl, List.take_length] at h1
      exact ⟨D, _, rfl, .inl ⟨SqL.of h1, fun l hl => k _ l (same_upd s1 (s1.free hl)) upd_same⟩⟩
theorem ok_lots (T : Txt K mg e) : FnOk P w K mg base CX0 1 e.a_l_lots e.d_l_lots p_l_lots spLots := by
  refine T.l_lots.F.ok sc_l_lots (fun vs H Q E h => ?_) (fun cdv A outer s H vs Q E hr h => ?_)
  · obtain ⟨n, rfl, _⟩ := h
    rfl
  · obtain ⟨n, rfl, hn, k⟩ := h
    refine ⟨_, pss_cons (ps_set (i := 1) sc_l_lots.nd rfl (.inl rfl) (pe_lst (pa_cons (pe_tup pa_nil) pa_nil)))
      (pss_cons (ps_for PassesOwn.never rfl (pi_range1 (by rfl) T.no_range (pa_cons (pv 0) pa_nil)) (pg_name (i := 2) sc_l_lots.nd rfl (.inr rfl))
        (pss_one (ps_set (i := 1) sc_l_lots.nd rfl (.inl rfl) (pe_op op_cat (pv 1)
          (pe_lc (own := [("_law_lot", 3)]) (g := gName 3) (tt := tYes) rfl sc_l_lots.nd (piL K (pv 1)) (blkOk_by (N := n_l_lots) (sc := defScope s_l_lots) (by decide +kernel))
            (fun _ _ _ _ _ => pg_name (i := 3) sc_l_lots.nd rfl (Or.inl rfl)) (fun _ _ _ _ _ => pts_nil) (fun _ _ _ _ _ => pe_op (catT K) (pv 3) (pe_tup (pa_cons (pv 2) pa_nil))))))))
      (pss_one (ps_ret (pe_lc (own := [("_law_size", 4), ("_law_lot", 3)]) (g := gTup K 2 (gCons (gName 4) (gCons (gName 3) gNil))) (tt := tYes) rfl sc_l_lots.nd
        (piL K (pe_callB (cr_sortL hr.units) (by rfl) T.no_sorted bt_sorted (pa_cons
          (pe_lc (own := [("_law_lot", 3)]) (g := gName 3) (tt := tYes) rfl sc_l_lots.nd (piL K (pv 1)) (blkOk_by (N := n_l_lots) (sc := defScope s_l_lots) (by decide +kernel))
            (fun _ _ _ _ _ => pg_name (i := 3) sc_l_lots.nd rfl (Or.inl rfl)) (fun _ _ _ _ _ => pts_nil) (fun _ _ _ _ _ => pe_tup (pa_cons (pe_callB (lenS K) (by rfl) T.no_len PySem.boot_len (pa_cons (pv 3) pa_nil)) (pa_cons (pv 3) pa_nil)))) pa_nil)))
        (blkOk_by (N := n_l_lots) (sc := defScope s_l_lots) (by decide +kernel))
        (fun _ _ _ _ _ => pgT K rfl (pgs_cons (pg_name (i := 4) sc_l_lots.nd rfl (Or.inl rfl)) (pgs_cons (pg_name (i := 3) sc_l_lots.nd rfl (Or.inl rfl)) pgs_nil))) (fun _ _ _ _ _ => pts_nil) (fun _ _ _ _ _ => pv 3))))), ?_⟩
    refine ⟨Nat.zero_le _, fun q hq => ⟨by show 1 ≤ sizeLine; decide, fun f hf => ?_⟩⟩
    have nqf : q ≠ f := ne_of_none upd_same hf
    have s0 : Same H (upd (upd H q (.tup [])) f (.lst [.ref q])) := (same_new hq).trans (same_new hf)
    refine ⟨_, rfl, _, rfl, by omega, by omega,
      for_range (lo := 0) (n := ((n : Nat) : Int).toNat) (fun i σ H' => ∃ f v2, σ = [some (.int (n : Int)), some (.ref f), v2, none, none] ∧ Same H H' ∧ LT H' f (lotsN i))
        ⟨f, _, rfl, s0, [q], upd_same, .cons (Eq.trans (upd_ne nqf) upd_same) .nil⟩ ?_ ?_⟩
    · rintro i σ H' hi ⟨f, v2, rfl, s1, as, hf, hp⟩
      have ela := paired_len hp
      have hll := lotsN_length i
      have h2i : 2 ^ i ≤ 2 ^ 6 := Nat.pow_le_pow_right (by decide) (by omega)
      refine ⟨_, rfl, _, rfl, f, rfl, ⟨_, SqL.of hf⟩, fun D hD => ?_⟩
      refine lc_list (K := K) (a := f) (xs := as.map V.ref) (fun j H3 => Same H' H3 ∧ ∃ ds : List Addr, H3 D = some (.lst (ds.map V.ref)) ∧ Paired (TI H3) ds (((lotsN i).take j).map fun l => l ++ [(i : Int)]))
        ⟨same_new hD, [], upd_same, .nil⟩ (fun j H3 _ ⟨s2, _⟩ => SqL.of (s2 _ _ hf)) ?_ ?_
      · rintro j x H3 hx ⟨s2, ds, hd, hdp⟩
        obtain ⟨a, ha, rfl⟩ := ref_at hx
        obtain ⟨l, hl, hal⟩ := paired_left hp ha
        have hl1 : TI H3 a l := hal.same s2
        have hlen := lotsN_len (List.mem_of_getElem? hl)
        refine ⟨rfl, ?_⟩
        refine ⟨_, rfl, _, rfl, by show 1 ≤ sizeLine; decide, fun p hp' => ?_⟩
        have nDp : D ≠ p := ne_of_none hd hp'
        have s3 : Same H3 (upd H3 p (.tup [.int (0 + (i : Int))])) := same_new hp'
        -- the list grows by a tuple z that reads l with i behind it
        have fin : ∀ (z : Addr) (H4 : Hp), Same H3 H4 → TI H4 z (l ++ [(i : Int)]) → ∃ acc, H4 D = some (.lst acc) ∧ acc.length < sizeLine ∧ Same H' (upd H4 D (.lst (acc ++ [.ref z]))) ∧
            ∃ ds : List Addr, (upd H4 D (.lst (acc ++ [.ref z]))) D = some (.lst (ds.map V.ref)) ∧ Paired (TI (upd H4 D (.lst (acc ++ [.ref z])))) ds (((lotsN i).take (j + 1)).map fun l => l ++ [(i : Int)]) := fun z H4 s4 hz => by
          refine ⟨ds.map V.ref, s4 _ _ hd, ?_, same_upd (s2.trans s4) hD, ds ++ [z], ?_, ?_⟩
          · rw [List.length_map, paired_len hdp, List.length_map, List.length_take]
            exact lt_line (by omega)
          · rw [upd_same, List.map_append]
            rfl
          · rw [take_snoc hl, List.map_append]
            have kpf : Kp H3 (upd H4 D (.lst (ds.map V.ref ++ [V.ref z]))) := (Kp.of s4).trans (kp_set (s4 _ _ hd))
            exact paired_append (tis_kp hdp kpf) (.cons (hz.kp (kp_set (s4 _ _ hd))) .nil)
        refine ⟨a, p, iv l, _, rfl, rfl, (hl1.same s3).sq, SqT.of upd_same, ?_, fun e0 => ?_, fun _ e1 => ?_, fun _ _ z hz => ?_⟩
        · rw [List.length_map]
          exact le_line (by simp; omega)
        · refine fin p _ s3 ?_
          have : l = [] := List.map_eq_nil_iff.mp e0
          show _ = some (HO.tup (iv (l ++ [(i : Int)])))
          rw [upd_same, this, Int.zero_add]
          rfl
        · cases e1
        · refine fin z _ (s3.trans (same_new hz)) ?_
          show _ = some (HO.tup (iv (l ++ [(i : Int)])))
          rw [upd_same, iv_append, Int.zero_add]
          rfl
      · rintro H3 ⟨s2, ds, hd, hdp⟩
        rw [List.length_map, ela, List.take_length] at hdp
        have ld := paired_len hdp
        rw [List.length_map] at ld
        refine ⟨f, D, _, _, rfl, rfl, s2 _ _ hf, hd, le_line (by rw [List.length_map, List.length_map]; omega), fun p hp' => ?_⟩
        refine ⟨p, _, rfl, same_upd (s1.trans s2) (s1.free (s2.free hp')), as ++ ds, ?_, ?_⟩
        · rw [upd_same, List.map_append]
        · exact paired_append (tis_kp hp ((Kp.of s2).trans (kp_new hp'))) (tis_kp hdp (kp_new hp'))
    · rintro σ H' ⟨f, v2, rfl, s1, as, hf, hp⟩
      rw [Int.toNat_natCast] at hp
      have ela := paired_len hp
      have hll := lotsN_length n
      have h2i : 2 ^ n ≤ 2 ^ 6 := Nat.pow_le_pow_right (by decide) hn
      refine ⟨_, rfl, f, rfl, ⟨_, SqL.of hf⟩, fun D hD => ?_⟩
      refine lc_list (K := K) (a := f) (xs := as.map V.ref) (fun j H3 => Same H' H3 ∧ ∃ qs : List Addr, H3 D = some (.lst (qs.map V.ref)) ∧ Paired (PR H3) qs ((lotsN n).take j))
        ⟨same_new hD, [], upd_same, .nil⟩ (fun j H3 _ ⟨s2, _⟩ => SqL.of (s2 _ _ hf)) ?_ ?_
      · rintro j x H3 hx ⟨s2, qs, hd, hdp⟩
        obtain ⟨a, ha, rfl⟩ := ref_at hx
        obtain ⟨l, hl, hal⟩ := paired_left hp ha
        have hl1 : TI H3 a l := hal.same s2
        refine ⟨rfl, ?_⟩
        refine ⟨_, rfl, a, _, rfl, .inr hl1.sq, _, rfl, by show 2 ≤ sizeLine; decide, fun p hp' => ?_⟩
        have nDp : D ≠ p := ne_of_none hd hp'
        refine ⟨qs.map V.ref, by rw [upd_ne nDp]; exact hd, ?_, same_upd (same_upd s2 (s2.free hp')) hD, qs ++ [p], ?_, ?_⟩
        · rw [List.length_map, paired_len hdp, List.length_take]
          exact lt_line (by omega)
        · rw [upd_same, List.map_append]
          rfl
        · rw [take_snoc hl]
          have kpf : Kp H3 (upd (upd H3 p (.tup [.int (((iv l).length : Nat) : Int), .ref a])) D (.lst (qs.map V.ref ++ [V.ref p]))) := (kp_new hp').trans (kp_set (xs := qs.map V.ref) (by rw [upd_ne nDp]; exact hd))
          refine paired_append (paired_mono hdp fun _ _ z => z.kp kpf) (.cons ⟨a, ?_, hl1.kp kpf⟩ .nil)
          rw [upd_ne nDp.symm, upd_same, List.length_map]
      · rintro H3 ⟨s2, qs, hd, hdp⟩
        rw [List.length_map, ela, List.take_length] at hdp
        refine ⟨D, qs, _, rfl, SqL.of hd, hdp, fun qs' p hp' hnew => ?_⟩
        have kpn : Kp H3 (upd H3 p (.lst (qs'.map V.ref))) := kp_new hnew
        have s3 : Same H (upd H3 p (.lst (qs'.map V.ref))) := (s1.trans s2).trans (same_new hnew)
        have elq := paired_len hp'
        have els := srt_len (lotsN n)
        refine ⟨p, rfl, ⟨_, SqL.of upd_same⟩, fun D2 hD2 => ?_⟩
        refine lc_list (K := K) (a := p) (xs := qs'.map V.ref) (fun j H4 => Same (upd H3 p (.lst (qs'.map V.ref))) H4 ∧ ∃ ds : List Addr, H4 D2 = some (.lst (ds.map V.ref)) ∧ Paired (TI H4) ds ((srt (lotsN n)).take j))
          ⟨same_new hD2, [], upd_same, .nil⟩ (fun j H4 _ ⟨s4, _⟩ => SqL.of (s4 _ _ upd_same)) ?_ ?_
        · rintro j x H4 hx ⟨s4, ds, hd4, hdp4⟩
          obtain ⟨q, hq, rfl⟩ := ref_at hx
          obtain ⟨l, hl, a, hpr, hal⟩ := paired_left hp' hq
          have kp4 : Kp H3 H4 := kpn.trans (Kp.of s4)
          refine ⟨q, _, rfl, SqT.of (kp4 _ _ hpr), rfl, _, _, rfl, _, _, rfl, rfl, rfl, ?_⟩
          refine ⟨_, rfl, ds.map V.ref, hd4, ?_, same_upd s4 hD2, ds ++ [a], ?_, ?_⟩
          · rw [List.length_map, paired_len hdp4, List.length_take]
            exact lt_line (by omega)
          · rw [upd_same, List.map_append]
            rfl
          · rw [take_snoc hl]
            exact paired_append (tis_kp hdp4 (kp_set hd4)) (.cons ((hal.kp kp4).kp (kp_set hd4)) .nil)
        · rintro H4 ⟨s4, ds, hd4, hdp4⟩
          rw [List.length_map, elq, List.take_length] at hdp4
          have z0 : H D2 = none := s3.free hD2
          exact k _ D2 (s3.trans s4) z0 ⟨ds, hd4, hdp4⟩
theorem ok_is_pit (T : Txt K mg e) : FnOk P w K mg base CX0 1 e.a_l_is_pit e.d_l_is_pit p_l_is_pit spIsPit := by
  refine T.l_is_pit.F.ok sc_l_is_pit (fun vs H Q E h => ?_) (fun cdv A outer s H vs Q E hr h => ?_)
  · obtain ⟨t, a, cov, l, rfl, _⟩ := h
    rfl
  · obtain ⟨t, a, cov, l, rfl, ⟨ts, ht1, ht2⟩, hgood, ha, hl, ho, k⟩ := h
    refine ⟨_, pss_cons (ps_for PassesOwn.never rfl (pi_tup (pv 1)) (pg_name (i := 2) sc_l_is_pit.nd rfl (.inl rfl))
        (pss_one (ps_if (pt_cmpR (neD K hr.units)
          (pe_lc (own := [("_law_one", 3)]) (g := gName 3) rfl sc_l_is_pit.nd (piT K (pe_ix ix_tup (pv 0) (pv 2) (fun _ _ => rfl))) (blkOk_by (N := n_l_is_pit) (sc := defScope s_l_is_pit) (by decide +kernel))
            (fun _ _ _ _ _ => pg_name (i := 3) sc_l_is_pit.nd rfl (Or.inl rfl)) (fun _ _ _ _ _ => pts_one (pt_cmpR (ninS K) (pv 3) (pv 1) (by rfl))) (fun _ _ _ _ _ => pv 3))
          (pe_lst pa_nil) (nomark _)) (pss_one (ps_ret pe_bl)) pss_nil)))
      (pss_one (ps_ret pe_bl)), ?_⟩
    have hn1 := hgood.n1
    refine ⟨_, rfl, a, rfl, ⟨_, ha.sq⟩, for_tup (K := K) (a := a) (xs := iv l) (fun i σ H' => (∃ v2, σ = [some (.ref t), some (.ref a), v2, none]) ∧ Same H H' ∧ ((l.take i).all fun b => fits cov b l) = true)
      ⟨⟨_, rfl⟩, Same.refl H, rfl⟩ (fun i σ H' _ ⟨_, s1, _⟩ => (ha.same s1).sq) ?_ ?_⟩
    · rintro i x σ H' hx ⟨⟨v2, rfl⟩, s1, hall⟩
      obtain ⟨o, hm, rfl⟩ := iv_at hx
      have hq := ho o (List.mem_of_getElem? hm)
      have eo : o = ((o.toNat : Nat) : Int) := by omega
      obtain ⟨c, hc⟩ : ∃ c, cov[o.toNat]? = some c := ⟨_, List.getElem?_eq_getElem (by omega)⟩
      obtain ⟨b, hb, hTI⟩ := paired_right ht2 hc
      have hb1 := hTI.same s1
      have hcl := len_of_low (hgood.asc c (List.mem_of_getElem? hc)) (hgood.low _ c hc)
      refine ⟨_, rfl, _, rfl, t, _, _, _, rfl, rfl, SqT.of (s1 _ _ ht1), at_of (j := o.toNat) eo (ref_get hb), b, rfl, ⟨_, hb1.sq⟩, fun D hD => ?_⟩
      refine lc_tup (K := K) (a := b) (xs := iv c) (fun m H3 => Same H' H3 ∧ H3 D = some (.lst (iv ((c.take m).filter fun o => !l.contains o)))) ⟨same_new hD, upd_same⟩ (fun m H3 _ ⟨s3, _⟩ => (hb1.same s3).sq) ?_ ?_
      · rintro m y H3 hy ⟨s3, h3⟩
        obtain ⟨z, hz, rfl⟩ := iv_at hy
        have hmm := (List.getElem?_eq_some_iff.mp hz).1
        refine ⟨rfl, ?_⟩
        refine ⟨_, rfl, _, rfl, a, _, rfl, .inr ((ha.same s1).same s3).sq, rfl, flat_ints _, _, rfl, ?_⟩
        show if (!inV (V.int z) (iv l)) = true then _ else _
        rw [inV_ints]
        refine ite2 (fun hyes => ?_) (fun hno => ?_)
        · refine ⟨_, rfl, _, h3, ?_, same_upd s3 hD, ?_⟩
          · rw [List.length_map]
            refine lt_line (Nat.le_trans (List.length_filter_le _ _) ?_)
            rw [List.length_take]
            omega
          · have e1 : [z].filter (fun o => !l.contains o) = [z] := List.filter_cons_of_pos hyes
            rw [upd_same, take_snoc hz, List.filter_append, e1, iv_append]
            rfl
        · refine ⟨s3, ?_⟩
          have e1 : [z].filter (fun o => !l.contains o) = [] := List.filter_cons_of_neg hno
          rw [take_snoc hz, List.filter_append, e1, List.append_nil]
          exact h3
      · rintro H3 ⟨s3, h3⟩
        rw [List.length_map, List.take_length] at h3
        refine ⟨Nat.zero_le _, fun E0 hE => ?_⟩
        refine ⟨.list ((c.filter fun o => !l.contains o).map PyData.int), .list [], .lst (SqL.of (same_new hE _ _ h3)) (dp_ints _), .lst (SqL.of upd_same) .nil, PySem.W.shaped_ints _, PySem.W.shaped_ints [], _, rfl, ?_⟩
        rw [eqv_nil, fits_iff hc, ← eo]
        have s4 : Same H (upd H3 E0 (.lst [])) := (s1.trans s3).trans (same_new hE)
        cases hf : fits cov o l with
        | true =>
          refine iteF ⟨⟨_, rfl⟩, s4, ?_⟩
          rw [take_snoc hm, List.all_append, hall]
          simp [hf]
        | false =>
          refine iteT ?_
          have e1 : isPit cov l = false := by
            unfold isPit
            rw [List.all_eq_false]
            exact ⟨o, List.mem_of_getElem? hm, by rw [hf]; exact Bool.false_ne_true⟩
          have q := k _ s4
          rw [e1] at q
          exact q
    · rintro σ H' ⟨⟨v2, rfl⟩, s1, hall⟩
      rw [List.length_map, List.take_length] at hall
      have q := k _ s1
      have e1 : isPit cov l = true := hall
      rw [e1] at q
      exact q
theorem ok_pits (T : Txt K mg e) : FnOk P w K mg base CX0 2 e.a_l_pits e.d_l_pits p_l_pits spPits := by
  refine T.l_pits.F.ok sc_l_pits (fun vs H Q E h => ?_) (fun cdv A outer s H vs Q E hr h => ?_)
  · obtain ⟨t, cov, rfl, _⟩ := h
    rfl
  · obtain ⟨t, cov, rfl, ht, hgood, k⟩ := h
    refine ⟨_, pss_one (ps_ret (pe_lc (own := [("_law_lot", 1)]) (g := gName 1) rfl sc_l_pits.nd
      (piL K (pe_call (ok_lots T) hr rfl T.l_lots.m T.l_lots.F.kp T.l_lots.b .nil pass0 (pa_cons (pe_callB call_len_seq (by rfl) T.no_len PySem.boot_len (pa_cons (pv 0) pa_nil)) pa_nil)))
      (blkOk_by (N := n_l_pits) (sc := defScope s_l_pits) (by decide +kernel)) (fun _ _ _ _ _ => pg_name (i := 1) sc_l_pits.nd rfl (Or.inl rfl))
      (fun _ _ _ _ _ => pts_one (pt_val (pe_call (ok_is_pit T) hr rfl T.l_is_pit.m T.l_is_pit.F.kp T.l_is_pit.b .nil pass0 (pa_cons (pv 0) (pa_cons (pv 1) pa_nil))))) (fun _ _ _ _ _ => pv 1))), ?_⟩
    have hn1 := hgood.n1
    obtain ⟨ts, ht1, ht2⟩ := id ht
    have elt := paired_len ht2
    refine ⟨_, rfl, t, _, rfl, .inr (SqT.of ht1), cov.length, by rw [List.length_map, elt]; rfl, hn1, fun H1 p s1 hp0 ⟨as, hp1, hp2⟩ => ?_⟩
    have elp := paired_len hp2
    have els := srt_len (lotsN cov.length)
    have hll := lotsN_length cov.length
    have h2i : 2 ^ cov.length ≤ 2 ^ 6 := Nat.pow_le_pow_right (by decide) hn1
    refine ⟨p, rfl, ⟨_, SqL.of hp1⟩, fun D hD => ?_⟩
    refine lc_list (K := K) (a := p) (xs := as.map V.ref) (fun j H3 => Same H1 H3 ∧ ∃ ds : List Addr, H3 D = some (.lst (ds.map V.ref)) ∧ Paired (TI H3) ds (((srt (lotsN cov.length)).take j).filter (isPit cov)))
      ⟨same_new hD, [], upd_same, .nil⟩ (fun j H3 _ ⟨s3, _⟩ => SqL.of (s3 _ _ hp1)) ?_ ?_
    · rintro j x H3 hx ⟨s3, ds, hd, hdp⟩
      obtain ⟨c, hc, rfl⟩ := ref_at hx
      obtain ⟨l, hl, hcl⟩ := paired_left hp2 hc
      have hlm : l ∈ lotsN cov.length := srt_mem.mp (List.mem_of_getElem? hl)
      have hlen := lotsN_len hlm
      have s13 := s1.trans s3
      refine ⟨rfl, ?_⟩
      refine ⟨_, rfl, _, rfl, t, c, cov, l, rfl, ht.same s13, hgood, hcl.same s3, by omega, fun o ho => lotsN_mem hlm o ho, fun H4 s4 => ⟨_, rfl, ?_⟩⟩
      refine ite2 (fun hyes => ?_) (fun hno => ?_)
      · refine ⟨_, rfl, ds.map V.ref, s4 _ _ hd, ?_, same_upd (s3.trans s4) hD, ds ++ [c], ?_, ?_⟩
        · rw [List.length_map, paired_len hdp]
          refine lt_line (Nat.le_trans (List.length_filter_le _ _) ?_)
          rw [List.length_take]
          omega
        · rw [upd_same, List.map_append]
          rfl
        · have e1 : [l].filter (isPit cov) = [l] := List.filter_cons_of_pos hyes
          rw [take_snoc hl, List.filter_append, e1]
          have kpf : Kp H3 (upd H4 D (.lst (ds.map V.ref ++ [V.ref c]))) := (Kp.of s4).trans (kp_set (s4 _ _ hd))
          exact paired_append (tis_kp hdp kpf) (.cons ((hcl.same s3).kp kpf) .nil)
      · refine ⟨s3.trans s4, ds, s4 _ _ hd, ?_⟩
        have e1 : [l].filter (isPit cov) = [] := List.filter_cons_of_neg hno
        rw [take_snoc hl, List.filter_append, e1, List.append_nil]
        exact tis_kp hdp (Kp.of s4)
    · rintro H3 ⟨s3, ds, hd, hdp⟩
      rw [List.length_map, elp, List.take_length, srt_filter, ← pitsN_eq hgood.lows] at hdp
      exact k _ D (s1.trans s3) ⟨ds, hd, hdp⟩
theorem ok_l_best (T : Txt K mg e) : FnOk P w K mg base CX0 3 e.a_l_best e.d_l_best p_l_best spLBest := by
  refine T.l_best.F.ok sc_l_best (fun vs H Q E h => ?_) (fun cdv A outer s H vs Q E hr h => ?_)
  · obtain ⟨t, a, cov, ws, rfl, _⟩ := h
    rfl
  · obtain ⟨t, a, cov, ws, rfl, ht, hgood, ha, hw, k⟩ := h
    refine ⟨_, pss_cons (ps_set (i := 2) sc_l_best.nd rfl (.inl rfl) (pe_call (ok_pits T) hr rfl T.l_pits.m T.l_pits.F.kp T.l_pits.b .nil pass0 (pa_cons (pv 0) pa_nil)))
      (pss_cons (ps_set (i := 3) sc_l_best.nd rfl (.inr rfl) (pe_callB (cr_max rfl) (by rfl) T.no_max bt_max (pa_cons
        (pe_lc (own := [("_law_pit", 4)]) (g := gName 4) (tt := tYes) rfl sc_l_best.nd (piL K (pv 2)) (blkOk_by (N := n_l_best) (sc := defScope s_l_best) (by decide +kernel))
          (fun _ _ _ _ _ => pg_name (i := 4) sc_l_best.nd rfl (Or.inl rfl)) (fun _ _ _ _ _ => pts_nil)
          (fun _ _ _ _ _ => pe_call (ok_l_sum T) (hr.mono (by decide)) rfl T.l_sum.m T.l_sum.F.kp T.l_sum.b .nil pass0 (pa_cons (pv 1) (pa_cons (pv 4) pa_nil)))) pa_nil)))
      (pss_one (ps_ret (pe_lc (own := [("_law_pit", 4)]) (g := gName 4) rfl sc_l_best.nd (piL K (pv 2)) (blkOk_by (N := n_l_best) (sc := defScope s_l_best) (by decide +kernel))
        (fun _ _ _ _ _ => pg_name (i := 4) sc_l_best.nd rfl (Or.inl rfl))
        (fun _ _ _ _ _ => pts_one (pt_cmpR op_eq (pe_call (ok_l_sum T) (hr.mono (by decide)) rfl T.l_sum.m T.l_sum.F.kp T.l_sum.b .nil pass0 (pa_cons (pv 1) (pa_cons (pv 4) pa_nil))) (pv 3) (nomark _)))
        (fun _ _ _ _ _ => pv 4))))), ?_⟩
    refine ⟨_, rfl, t, cov, rfl, ht, hgood, fun H1 p s1 ⟨as, hp1, hp2⟩ => ?_⟩
    have hlen := pits_len hgood
    have hn1 := hgood.n1
    have ok : OkLots ws (srt (pitsN cov cov.length)) := fun l hl => lots_ok hw (by omega) (pits_lots hgood hl)
    have hne := pits_ne hgood
    generalize hls : srt (pitsN cov cov.length) = ls at *
    have ela := paired_len hp2
    refine ⟨_, rfl, p, rfl, ⟨_, SqL.of hp1⟩, fun B hB => ?_⟩
    refine lc_list (K := K) (a := p) (xs := as.map V.ref) (fun i H' => Same H1 H' ∧ H' B = some (.lst (iv ((ls.take i).map (lotSum ws))))) ⟨same_new hB, upd_same⟩ (fun i H' _ ⟨s2, _⟩ => SqL.of (s2 _ _ hp1)) ?_ ?_
    · rintro i x H' hx ⟨s2, h2⟩
      obtain ⟨c, hc, rfl⟩ := ref_at hx
      obtain ⟨l, hm, hcl⟩ := paired_left hp2 hc
      have hi := (List.getElem?_eq_some_iff.mp hm).1
      have hq := ok l (List.mem_of_getElem? hm)
      refine ⟨rfl, ?_⟩
      refine ⟨_, rfl, _, rfl, a, c, ws, l, rfl, (ha.same s1).same s2, hcl.same s2, hq.1, hq.2, fun H2 s3 => ?_⟩
      refine ⟨_, s3 _ _ h2, lt_line (by rw [List.length_map, List.length_map, List.length_take]; omega), same_upd (s2.trans s3) hB, ?_⟩
      rw [upd_same, take_snoc hm, List.map_append, iv_append]
      rfl
    · rintro H2 ⟨s2, h2⟩
      rw [List.length_map, ela, List.take_length] at h2
      refine ⟨B, _, rfl, SqL.of h2, by rw [List.length_map]; exact List.length_pos_iff.mpr hne, fun m hmm hmax => ?_⟩
      have hm := top_is hmm hmax
      refine ⟨_, rfl, p, rfl, ⟨_, SqL.of (s2 _ _ hp1)⟩, fun D hD => ?_⟩
      refine lc_list (K := K) (a := p) (xs := as.map V.ref) (fun j H3 => Same H2 H3 ∧ ∃ ds : List Addr, H3 D = some (.lst (ds.map V.ref)) ∧ Paired (TI H3) ds ((ls.take j).filter fun l => lotSum ws l == m))
        ⟨same_new hD, [], upd_same, .nil⟩ (fun j H3 _ ⟨s3, _⟩ => SqL.of (s3 _ _ (s2 _ _ hp1))) ?_ ?_
      · rintro j x H3 hx ⟨s3, ds, hd, hdp⟩
        obtain ⟨c, hc, rfl⟩ := ref_at hx
        obtain ⟨l, hl, hcl⟩ := paired_left hp2 hc
        have hq := ok l (List.mem_of_getElem? hl)
        have s13 := s2.trans s3
        refine ⟨rfl, ?_⟩
        refine ⟨_, rfl, _, rfl, a, c, ws, l, rfl, (ha.same s1).same s13, hcl.same s13, hq.1, hq.2, fun H4 s4 => ⟨_, rfl, rfl, _, rfl, ?_⟩⟩
        rw [dec_int]
        refine ite2 (fun hyes => ?_) (fun hno => ?_)
        · refine ⟨_, rfl, ds.map V.ref, s4 _ _ hd, ?_, same_upd (s3.trans s4) hD, ds ++ [c], ?_, ?_⟩
          · rw [List.length_map, paired_len hdp]
            refine lt_line (Nat.le_trans (List.length_filter_le _ _) ?_)
            rw [List.length_take]
            omega
          · rw [upd_same, List.map_append]
            rfl
          · have e1 : [l].filter (fun l => lotSum ws l == m) = [l] := List.filter_cons_of_pos hyes
            rw [take_snoc hl, List.filter_append, e1]
            have kpf : Kp H3 (upd H4 D (.lst (ds.map V.ref ++ [V.ref c]))) := (Kp.of s4).trans (kp_set (s4 _ _ hd))
            exact paired_append (tis_kp hdp kpf) (.cons ((hcl.same s13).kp kpf) .nil)
        · refine ⟨s3.trans s4, ds, s4 _ _ hd, ?_⟩
          have e1 : [l].filter (fun l => lotSum ws l == m) = [] := List.filter_cons_of_neg hno
          rw [take_snoc hl, List.filter_append, e1, List.append_nil]
          exact tis_kp hdp (Kp.of s4)
      · rintro H3 ⟨s3, ds, hd, hdp⟩
        rw [List.length_map, ela, List.take_length, hm] at hdp
        exact k _ D ((s1.trans s2).trans s3) ⟨ds, hd, hdp⟩
end
end Pk
namespace Pk
open PySem PySem.Spec PyProof.Rows L2
/-! ### two values that are equal and of one structure -/
theorem ka_int {K : PySem.W.Frag} : PySem.W.kitAny K (.type "int") [.type "tuple", .type "list"] = some false := kitAny_cons ki_it (fun _ => kitAny_cons ki_il (fun _ => kitAny_nil) (fun h => nomatch h)) (fun h => nomatch h)
theorem ka_tup {K : PySem.W.Frag} : PySem.W.kitAny K (.type "tuple") [.type "tuple", .type "list"] = some true := kitAny_cons ki_tt (fun h => nomatch h) (fun _ => rfl)
theorem two_cls : Paired ClsV [V.ty "tuple", V.ty "list"] [Value.type "tuple", Value.type "list"] := .cons (.ty _) (.cons (.ty _) .nil)
def spAlikeI : Sp := fun vs H Q _ => ∃ i : Int, vs = [.int i, .int i] ∧ ∀ H', Same H H' → Q (.bl true) H'
def spAlikeT (sub : Sp) : Sp := fun vs H Q _ => ∃ (a b : Addr) (xs ys : List V), vs = [.ref a, .ref b] ∧ H a = some (.tup xs) ∧ H b = some (.tup ys) ∧ xs.length = ys.length ∧ xs.length ≤ 1000 ∧
  (∀ (i : Nat) (x y : V) (H' : Hp), Same H H' → xs[i]? = some x → ys[i]? = some y → ∀ Q' : VK, (∀ H2, Same H' H2 → Q' (.bl true) H2) → sub [x, y] H' Q' E0) ∧ ∀ H', Same H H' → Q (.bl true) H'
section
variable {P : Program} {w : World} {K : PySem.W.Frag} {mg : Str → Option Value} {base : Heap} {e : Lay}
theorem ok_alikeI (T : Txt K mg e) : FnOk P w K mg base CX0 1 e.a_l_alike e.d_l_alike p_l_alike spAlikeI := by
  refine T.l_alike.F.ok sc_l_alike (fun vs H Q E h => ?_) (fun cdv A outer s H vs Q E hr h => ?_)
  · obtain ⟨i, rfl, _⟩ := h
    rfl
  · obtain ⟨i, rfl, k⟩ := h
    refine ⟨_, pss_cons (ps_if (pt_val (pe_callB call_isiT (by rfl) T.no_isinstance bt_isinstance (pa_cons (pv 1) (pa_cons (pe_tup (pa_cons (pe_bltn (v := .ty "tuple") (by rfl) T.no_tuple bt_tuple rfl) (pa_cons (pe_bltn (v := .ty "list") (by rfl) T.no_list bt_list rfl) pa_nil))) pa_nil)))) pss_never pss_nil)
      (pss_cons (ps_if (PW.pt (pw_or (pt_cmpR op_isN (pv 1) pe_non (nomark _)) (pw_or1 (pt_val (pe_callB call_isi (by rfl) T.no_isinstance bt_isinstance (pa_cons (pv 1) (pa_cons (pe_bltn (v := .ty "str") (by rfl) T.no_str bt_str rfl) pa_nil))))))) pss_never pss_nil)
      (pss_one (ps_ret (pe_and (pe_callB call_isi (by rfl) T.no_isinstance bt_isinstance (pa_cons (pv 0) (pa_cons (pe_bltn (v := .ty "int") (by rfl) T.no_int bt_int rfl) pa_nil)))
        (pe_and (pe_cmpR op_eq (pe_callB call_isi (by rfl) T.no_isinstance bt_isinstance (pa_cons (pv 0) (pa_cons (pe_bltn (v := .ty "bool") (by rfl) T.no_bool bt_bool rfl) pa_nil)))
            (pe_callB call_isi (by rfl) T.no_isinstance bt_isinstance (pa_cons (pv 1) (pa_cons (pe_bltn (v := .ty "bool") (by rfl) T.no_bool bt_bool rfl) pa_nil))) (nomark _))
          (pe_one (pe_cmpR op_eq (pv 0) (pv 1) (nomark _)))))))), ?_⟩
    refine ⟨_, rfl, by show 2 ≤ sizeLine; decide, fun p hp => ?_⟩
    have s1 : Same H (upd H p (.tup [.ty "tuple", .ty "list"])) := same_new hp
    refine ⟨.int i, p, _, _, _, false, rfl, upd_same, two_cls, .base (.int i), ka_int, false, rfl, iteF ?_⟩
    refine ⟨_, rfl, rfl, _, rfl, iteF ?_⟩
    refine ⟨_, rfl, .int i, .ty "str", _, _, false, rfl, .ty "str", .base (.int i), ki_is, false, rfl, iteF ?_⟩
    refine ⟨_, rfl, .int i, .ty "int", _, _, true, rfl, .ty "int", .base (.int i), ki_ii, true, rfl, iteT ?_⟩
    refine ⟨_, rfl, .int i, .ty "bool", _, _, false, rfl, .ty "bool", .base (.int i), ki_ib, _, rfl, .int i, .ty "bool", _, _, false, rfl, .ty "bool", .base (.int i), ki_ib, rfl, true, rfl, iteT ?_⟩
    refine ⟨_, rfl, _, rfl, rfl, ?_⟩
    rw [decide_eq_true rfl]
    exact k _ s1
theorem ok_alikeT (T : Txt K mg e) {j : Nat} {sub : Sp} (G : FnOk P w K mg base CX0 j e.a_l_alike e.d_l_alike p_l_alike sub) : FnOk P w K mg base CX0 (j + 1) e.a_l_alike e.d_l_alike p_l_alike (spAlikeT sub) := by
  refine T.l_alike.F.ok sc_l_alike (fun vs H Q E h => ?_) (fun cdv A outer s H vs Q E hr h => ?_)
  · obtain ⟨a, b, xs, ys, rfl, _⟩ := h
    rfl
  · obtain ⟨a, b, xs, ys, rfl, ha, hb, hl, hn, hsub, k⟩ := h
    refine ⟨_, pss_cons (ps_if (pt_val (pe_callB call_isiT (by rfl) T.no_isinstance bt_isinstance (pa_cons (pv 1) (pa_cons (pe_tup (pa_cons (pe_bltn (v := .ty "tuple") (by rfl) T.no_tuple bt_tuple rfl) (pa_cons (pe_bltn (v := .ty "list") (by rfl) T.no_list bt_list rfl) pa_nil))) pa_nil))))
        (pss_cons (ps_if (PW.pt (pw_or (pt_not (pt_val (pe_callB call_isiT (by rfl) T.no_isinstance bt_isinstance (pa_cons (pv 0) (pa_cons (pe_tup (pa_cons (pe_bltn (v := .ty "tuple") (by rfl) T.no_tuple bt_tuple rfl) (pa_cons (pe_bltn (v := .ty "list") (by rfl) T.no_list bt_list rfl) pa_nil))) pa_nil)))))
            (pw_or1 (pt_cmpR op_ne (pe_callB call_isi (by rfl) T.no_isinstance bt_isinstance (pa_cons (pv 0) (pa_cons (pe_bltn (v := .ty "list") (by rfl) T.no_list bt_list rfl) pa_nil)))
              (pe_callB call_isi (by rfl) T.no_isinstance bt_isinstance (pa_cons (pv 1) (pa_cons (pe_bltn (v := .ty "list") (by rfl) T.no_list bt_list rfl) pa_nil))) (nomark _))))) pss_never pss_nil)
        (pss_cons (ps_if (pt_cmpR op_ne (pe_callB call_len_seq (by rfl) T.no_len PySem.boot_len (pa_cons (pv 0) pa_nil)) (pe_callB call_len_seq (by rfl) T.no_len PySem.boot_len (pa_cons (pv 1) pa_nil)) (nomark _)) pss_never pss_nil)
        (pss_one (ps_ret (pe_cmpR (eqD K hr.units)
          (pe_lc (own := [("_law_k", 2)]) (g := gName 2) rfl sc_l_alike.nd (pi_range1 (by rfl) T.no_range (pa_cons (pe_callB call_len_seq (by rfl) T.no_len PySem.boot_len (pa_cons (pv 1) pa_nil)) pa_nil))
            (blkOk_by (N := n_l_alike) (sc := defScope s_l_alike) (by decide +kernel)) (fun _ _ _ _ _ => pg_name (i := 2) sc_l_alike.nd rfl (Or.inl rfl))
            (fun _ _ _ _ _ => pts_one (pt_not (pt_val (pe_call G hr rfl T.l_alike.m T.l_alike.F.kp T.l_alike.b .nil pass0 (pa_cons (pe_ix (ixT K) (pv 0) (pv 2) (fun _ _ => rfl)) (pa_cons (pe_ix (ixT K) (pv 1) (pv 2) (fun _ _ => rfl)) pa_nil))))))
            (fun _ _ _ _ _ => pv 2)) (pe_lst pa_nil) (nomark _)))))) pss_nil) pss_never, ?_⟩
    refine ⟨_, rfl, by show 2 ≤ sizeLine; decide, fun p hp => ?_⟩
    have s1 : Same H (upd H p (.tup [.ty "tuple", .ty "list"])) := same_new hp
    refine ⟨.ref b, p, _, _, _, true, rfl, upd_same, two_cls, .base (.tup (s1 _ _ hb)), ka_tup, true, rfl, iteT ?_⟩
    refine ⟨_, rfl, by show 2 ≤ sizeLine; decide, fun p2 hp2 => ?_⟩
    have s2 := s1.trans (same_new (o := .tup [.ty "tuple", .ty "list"]) hp2)
    refine ⟨.ref a, p2, _, _, _, true, rfl, upd_same, two_cls, .base (.tup (s2 _ _ ha)), ka_tup, true, rfl, iteF ?_⟩
    refine ⟨_, rfl, .ref a, .ty "list", _, _, false, rfl, .ty "list", .base (.tup (s2 _ _ ha)), ki_tl, _, rfl, .ref b, .ty "list", _, _, false, rfl, .ty "list", .base (.tup (s2 _ _ hb)), ki_tl, rfl, false, rfl, iteF ?_⟩
    refine ⟨_, rfl, a, xs, rfl, .inr (SqT.of (s2 _ _ ha)), _, rfl, b, ys, rfl, .inr (SqT.of (s2 _ _ hb)), rfl, _, rfl, ?_⟩
    rw [decide_eq_true (show V.int ((xs.length : Nat) : Int) = V.int ((ys.length : Nat) : Int) by rw [hl])]
    refine iteF ?_
    refine ⟨_, rfl, b, ys, rfl, .inr (SqT.of (s2 _ _ hb)), _, rfl, by omega, by omega, fun D hD => ?_⟩
    generalize upd (upd H p (.tup [.ty "tuple", .ty "list"])) p2 (.tup [.ty "tuple", .ty "list"]) = H1 at *
    refine lc_range (lo := 0) (n := ((ys.length : Nat) : Int).toNat) (fun i H' => Same H1 H' ∧ H' D = some (.lst [])) ⟨same_new hD, upd_same⟩ ?_ ?_
    · rintro i H' hi ⟨s3, h3⟩
      have hx : xs[i]? = some (xs[i]'(by omega)) := List.getElem?_eq_getElem (by omega)
      have hy : ys[i]? = some (ys[i]'(by omega)) := List.getElem?_eq_getElem (by omega)
      have s4 := s2.trans s3
      refine ⟨rfl, ?_⟩
      refine ⟨_, rfl, _, rfl, a, xs, _, _, rfl, rfl, SqT.of (s4 _ _ ha), at_of (j := i) (by omega) hx, _, rfl, _, rfl, b, ys, _, _, rfl, rfl, SqT.of (s4 _ _ hb), at_of (j := i) (by omega) hy, ?_⟩
      exact hsub i _ _ H' s4 hx hy _ fun H2 s5 => ⟨true, rfl, iteF ⟨s3.trans s5, s5 _ _ h3⟩⟩
    · rintro H' ⟨s3, h3⟩
      refine ⟨Nat.zero_le _, fun E2 hE => ?_⟩
      refine ⟨.list [], .list [], .lst (SqL.of (same_new hE _ _ h3)) .nil, .lst (SqL.of upd_same) .nil, PySem.W.shaped_ints [], PySem.W.shaped_ints [], ?_⟩
      exact k _ ((s2.trans s3).trans (same_new hE))
/-- two tuples whose items are alike, pair by pair -/
def AlikeD (sub : Sp) (H : Hp) (a b : Addr) : Prop := ∃ xs ys : List V, H a = some (.tup xs) ∧ H b = some (.tup ys) ∧ xs.length = ys.length ∧ xs.length ≤ 1000 ∧
  ∀ (i : Nat) (x y : V) (H' : Hp), Same H H' → xs[i]? = some x → ys[i]? = some y → ∀ Q' : VK, (∀ H2, Same H' H2 → Q' (.bl true) H2) → sub [x, y] H' Q' E0
theorem AlikeD.sp {sub : Sp} {H : Hp} {a b : Addr} {Q : VK} (h : AlikeD sub H a b) (k : ∀ H', Same H H' → Q (.bl true) H') : spAlikeT sub [.ref a, .ref b] H Q E0 := by
  obtain ⟨xs, ys, h1, h2, h3, h4, h5⟩ := h
  exact ⟨a, b, xs, ys, rfl, h1, h2, h3, h4, h5, k⟩
/-- two tuples of the same ints -/
theorem alike_TI {H : Hp} {a b : Addr} {ns : List Int} (ha : TI H a ns) (hb : TI H b ns) (hn : ns.length ≤ 1000) : AlikeD spAlikeI H a b := by
  refine ⟨iv ns, iv ns, ha, hb, rfl, by rw [List.length_map]; exact hn, fun i x y H' s1 hx hy Q' k' => ?_⟩
  obtain ⟨z, hz, rfl⟩ := iv_at hx
  obtain ⟨z', hz', rfl⟩ := iv_at hy
  rw [hz] at hz'
  cases hz'
  exact ⟨z, rfl, k'⟩
/-- two tuples of three such each -/
theorem alike_Res {H : Hp} {a b : Addr} {ws : List Int} {q : Int} {best : List (List Int)} (ha : Res H a ws q best) (hb : Res H b ws q best) (hn : ∀ l ∈ best, l.length ≤ 1000) : AlikeD (spAlikeT spAlikeI) H a b := by
  obtain ⟨l0, l1, a1, a2, a3, h0, h1, ha, t1, t2, t3⟩ := ha
  obtain ⟨m0, m1, b1, b2, b3, g0, g1, hb, u1, u2, u3⟩ := hb
  rw [h0] at g0
  cases g0
  rw [h1] at g1
  cases g1
  refine ⟨[.ref a1, .ref a2, .ref a3], [.ref b1, .ref b2, .ref b3], ha, hb, rfl, (show 3 ≤ 1000 by decide), fun i x y H' s1 hx hy Q' k' => ?_⟩
  match i, hx, hy with
  | 0, hx, hy =>
    cases hx
    cases hy
    exact (alike_TI (t1.same s1) (u1.same s1) (by simp)).sp k'
  | 1, hx, hy =>
    cases hx
    cases hy
    exact (alike_TI (t2.same s1) (u2.same s1) (hn _ (List.mem_of_getElem? h0))).sp k'
  | 2, hx, hy =>
    cases hx
    cases hy
    exact (alike_TI (t3.same s1) (u3.same s1) (hn _ (List.mem_of_getElem? h1))).sp k'
  | n + 3, hx, hy => cases hx
end
end Pk
namespace Pk
open PySem PySem.Spec PyProof.Rows L2
def spCovers (K : PySem.W.Frag) : Sp := fun vs H Q _ => ∃ (r a : Addr) (ns : List Int), vs = [.ref r, .int 6] ∧ Row K H r a ns ∧ ∀ H' p cov, But r H H' → Row K H' r a ns → TT H' p cov → Good cov → Q (.ref p) H'
def spMarket (K : PySem.W.Frag) : Sp := fun vs H Q _ => ∃ (r a : Addr) (ns : List Int), vs = [.ref r, .int 6] ∧ Row K H r a ns ∧
  ∀ H' p t b c cov gs cs, But r H H' → Row K H' r a ns → H' p = some (.tup [.ref t, .ref b, .ref c]) → TT H' t cov → TI H' b gs → TI H' c cs → Market cov gs cs → Q (.ref p) H'
/-- an ascending row of numbers below b -/
def Asc (os : List Int) (b : Int) : Prop := os.Pairwise (· < ·) ∧ ∀ o ∈ os, 0 ≤ o ∧ o < b
theorem Asc.nil (b : Int) : Asc [] b := ⟨.nil, fun _ h => nomatch h⟩
theorem Asc.snoc {os : List Int} {j : Nat} (h : Asc os (j : Int)) : Asc (os ++ [(0 : Int) + (j : Int)]) ((j + 1 : Nat) : Int) := by
  refine ⟨List.pairwise_append.mpr ⟨h.1, List.pairwise_singleton _ _, fun a ha b hb => ?_⟩, fun o ho => ?_⟩
  · have e := List.mem_singleton.mp hb
    have := (h.2 a ha).2
    omega
  · rcases List.mem_append.mp ho with q | q
    · have := h.2 o q
      omega
    · have e := List.mem_singleton.mp q
      omega
theorem Asc.mono {os : List Int} {b c : Int} (h : Asc os b) (hc : b ≤ c) : Asc os c := ⟨h.1, fun o ho => by have := h.2 o ho; omega⟩
theorem Asc.len {os : List Int} {b : Int} (h : Asc os b) : os.length ≤ b.toNat := len_of_low h.1 h.2
theorem Asc.filter {os : List Int} {b : Int} (h : Asc os b) (p : Int → Bool) : Asc (os.filter p) b := ⟨h.1.filter p, fun o ho => h.2 o (List.mem_filter.mp ho).1⟩
theorem Asc.cut {os : List Int} {b : Int} (h : Asc os b) (i j : Nat) : Asc ((os.drop i).take j) b :=
  ⟨(h.1.sublist (List.drop_sublist i os)).sublist (List.take_sublist j _), fun o ho => h.2 o (List.mem_of_mem_drop (List.mem_of_mem_take ho))⟩
/-- 0, 1, .. below n -/
def upto (n : Nat) : List Int := (List.range n).map fun (i : Nat) => (0 : Int) + (i : Int)
theorem upto_asc : ∀ n : Nat, Asc (upto n) (n : Int) := by
  intro n
  induction n with
  | zero => exact Asc.nil _
  | succ n ih =>
    have e1 : upto (n + 1) = upto n ++ [(0 : Int) + (n : Int)] := by
      unfold upto
      rw [List.range_succ, List.map_append]
      rfl
    rw [e1]
    exact ih.snoc
theorem rgV_upto (n : Nat) : rgV 0 (n : Int) = iv (upto n) := by
  unfold rgV upto iv
  rw [Int.sub_zero, Int.toNat_natCast, List.map_map]
  rfl
theorem cutV_iv (zs : List Int) (lo hi : Option Int) : ∃ i j, cutV (iv zs) lo hi = iv ((zs.drop i).take j) := by
  refine ⟨HT.sIx (iv zs).length 0 lo, HT.sIx (iv zs).length (iv zs).length hi - HT.sIx (iv zs).length 0 lo, ?_⟩
  unfold cutV
  rw [← List.map_drop, ← List.map_take]
/-- what all turns of the draw of covers keep -/
structure CovAt (K : PySem.W.Frag) (H0 H : Hp) (r a : Addr) (ns : List Int) (f : Addr) (b : Nat) (ts : List Addr) (cov : List (List Int)) : Prop where
  but : But r H0 H
  row : Row K H r a ns
  new : H0 f = none
  lst : H f = some (.lst (ts.map V.ref))
  prs : Paired (TI H) ts cov
  len : cov.length = b
  asc : ∀ c ∈ cov, c.Pairwise (· < ·)
  low : ∀ (i : Nat) (c : List Int), cov[i]? = some c → ∀ o ∈ c, 0 ≤ o ∧ o < (i : Int)
theorem CovAt.same {K : PySem.W.Frag} {H0 H H' : Hp} {r a f : Addr} {ns : List Int} {b : Nat} {ts : List Addr} {cov : List (List Int)} (c : CovAt K H0 H r a ns f b ts cov) (s : Same H H') : CovAt K H0 H' r a ns f b ts cov :=
  ⟨c.but.trans (But.of s), c.row.same s, c.new, s _ _ c.lst, tis_kp c.prs (Kp.of s), c.len, c.asc, c.low⟩
def CovL (K : PySem.W.Frag) (H0 : Hp) (r a : Addr) (ns : List Int) (f : Addr) (way n : Int) (b : Nat) (σ : L2.St) (H : Hp) : Prop := ∃ (v5 v6 : Option V) (ts : List Addr) (cov : List (List Int)),
  σ = [some (.ref r), some (.int 6), some (.ref f), some (.int way), some (.int n), v5, v6, none] ∧ CovAt K H0 H r a ns f b ts cov
def CovM (K : PySem.W.Frag) (H0 : Hp) (r a : Addr) (ns : List Int) (f : Addr) (way n : Int) (b : Nat) (σ : L2.St) (H : Hp) : Prop := ∃ (s : Addr) (os : List Int) (ts : List Addr) (cov : List (List Int)),
  σ = [some (.ref r), some (.int 6), some (.ref f), some (.int way), some (.int n), some (.int ((0 : Int) + (b : Int))), some (.ref s), none] ∧ CovAt K H0 H r a ns f b ts cov ∧ H s = some (.lst (iv os)) ∧ Asc os (b : Int)
section
variable {P : Program} {w : World} {K : PySem.W.Frag} {mg : Str → Option Value} {base : Heap} {e : Lay}
theorem ok_covers (T : Txt K mg e) : FnOk P w K mg base CX0 2 e.a_l_covers e.d_l_covers p_l_covers (spCovers K) := by
  refine T.l_covers.F.ok sc_l_covers (fun vs H Q E h => ?_) (fun cdv A outer s H vs Q E hr h => ?_)
  · obtain ⟨r, a, ns, rfl, _⟩ := h
    rfl
  · obtain ⟨r, a, ns, rfl, hR, k⟩ := h
    have GT : FnOk P w K mg base CX0 1 e.a_l_taken e.d_l_taken p_l_taken (spTaken K) := ok_taken T
    refine ⟨_, pss_cons (ps_asg (pe_tup (pa_cons (pe_lst pa_nil) (pa_cons (pe_call GT hr rfl T.l_taken.m T.l_taken.F.kp T.l_taken.b .nil pass0 (pa_cons (pv 0) (pa_cons pe_int pa_nil))) (pa_cons (pe_op op_add pe_int (pe_call GT hr rfl T.l_taken.m T.l_taken.F.kp T.l_taken.b .nil pass0 (pa_cons (pv 0) (pa_cons (pv 1) pa_nil)))) pa_nil))))
        (pg_tup (by rfl) (pgs_cons (pg_name (i := 2) sc_l_covers.nd rfl (.inl rfl)) (pgs_cons (pg_name (i := 3) sc_l_covers.nd rfl (.inl rfl)) (pgs_cons (pg_name (i := 4) sc_l_covers.nd rfl (.inr rfl)) pgs_nil)))))
      (pss_cons (ps_for PassesOwn.never rfl (pi_range1 (by rfl) T.no_range (pa_cons (pv 4) pa_nil)) (pg_name (i := 5) sc_l_covers.nd rfl (.inr rfl))
        (C8.pss_cut (ps_setLc (i := 6) (own := [("_law_one", 7)]) (g := gName 7) rfl sc_l_covers.nd rfl rfl (sw_true rfl rfl rfl (by decide +kernel)) (pi_range1 (by rfl) T.no_range (pa_cons (pv 5) pa_nil))
            (blkOk_by (N := n_l_covers) (sc := defScope s_l_covers) (by decide +kernel)) (fun _ _ _ _ _ => pg_name (i := 7) sc_l_covers.nd rfl (Or.inl rfl))
            (fun _ _ _ _ _ => pts_one (pt_cmpR op_eq (pe_call GT hr rfl T.l_taken.m T.l_taken.F.kp T.l_taken.b .nil pass0 (pa_cons (pv 0) (pa_cons pe_int pa_nil))) pe_int (nomark _))) (fun _ _ _ _ _ => pv 7))
        (C8.pss_cut (ps_if (pt_cmpR op_eq (pv 3) pe_int (nomark _)) (pss_one (ps_set (i := 6) sc_l_covers.nd rfl (.inl rfl) (pe_lst pa_nil))) pss_nil)
        (C8.pss_cut (ps_if (pt_cmpR op_eq (pv 3) pe_int (nomark _)) (pss_one (ps_set (i := 6) sc_l_covers.nd rfl (.inl rfl) (pe_slice sl_list (pe_listRg rfl (by rfl) T.no_list (prg_1 (by rfl) T.no_range (pv 5))) (po_some (pe_un un_neg pe_int)) po_none))) pss_nil)
        (C8.pss_cut (ps_if (pt_cmpR op_eq (pv 3) pe_int (nomark _)) (pss_one (ps_setLc (i := 6) (own := [("_law_one", 7)]) (g := gName 7) rfl sc_l_covers.nd rfl rfl (sw_true rfl rfl rfl (by decide +kernel)) (pi_range1 (by rfl) T.no_range (pa_cons (pv 5) pa_nil))
            (blkOk_by (N := n_l_covers) (sc := defScope s_l_covers) (by decide +kernel)) (fun _ _ _ _ _ => pg_name (i := 7) sc_l_covers.nd rfl (Or.inl rfl))
            (fun _ _ _ _ _ => pts_one (pt_chain op_lt op_le (pe_op op_mul pe_int (pv 7)) (pv 4) (pe_op op_mul pe_int (pv 5)))) (fun _ _ _ _ _ => pv 7))) pss_nil)
        (C8.pss_cut (ps_if (pt_cmpR op_eq (pv 3) pe_int (nomark _)) (pss_one (ps_setLc (i := 6) (own := [("_law_one", 7)]) (g := gName 7) rfl sc_l_covers.nd rfl rfl (sw_true rfl rfl rfl (by decide +kernel)) (piL K (pv 6))
            (blkOk_by (N := n_l_covers) (sc := defScope s_l_covers) (by decide +kernel)) (fun _ _ _ _ _ => pg_name (i := 7) sc_l_covers.nd rfl (Or.inl rfl))
            (fun _ _ _ _ _ => pts_one (pt_cmpR op_lt (pe_op op_sub (pv 5) (pv 7)) pe_int (nomark _))) (fun _ _ _ _ _ => pv 7))) pss_nil)
        (pss_one (ps_expr (pe_bm PySem.F.plainAttrs_list PySem.F.slot_list_append PySem.F.type_list_append mt_append (pv 2) (pa_cons (pe_callTy call_tuple_of (by rfl) T.no_tuple bt_tuple (pa_cons (pv 6) pa_nil)) pa_nil))))))))))
      (pss_one (ps_ret (pe_callTy call_tuple_of (by rfl) T.no_tuple bt_tuple (pa_cons (pv 2) pa_nil))))), ?_⟩
    refine ⟨Nat.zero_le _, fun f hf => ?_⟩
    have s0 : Same H (upd H f (.lst [])) := same_new hf
    have nfr : f ≠ r := hR.ne hf
    refine ⟨_, rfl, r, a, ns, 7, rfl, hR.same s0, by decide, by decide, fun way H1 w0 w1 b1 R1 => ?_⟩
    refine ⟨_, rfl, _, rfl, r, a, ns, 6, rfl, R1, by decide, by decide, fun t H2 t0 t1 b2 R2 => ⟨_, _, rfl, rfl, by show 3 ≤ sizeLine; decide, fun q hq => ?_⟩⟩
    have hf2 : H2 f = some (.lst []) := (b1.trans b2) _ _ nfr upd_same
    have s3 : Same H2 (upd H2 q (.tup [.ref f, .int way, .int (1 + t)])) := same_new hq
    refine ⟨q, _, rfl, SqT.of upd_same, rfl, _, _, rfl, _, _, rfl, _, _, rfl, rfl, ?_⟩
    have bb : But r H (upd H2 q (.tup [.ref f, .int way, .int (1 + t)])) := ((But.of s0).trans (b1.trans b2)).trans (But.of s3)
    have hn : 0 ≤ 1 + t ∧ 1 + t ≤ 6 := ⟨by omega, by omega⟩
    have hn1 : 1 ≤ 1 + t := by omega
    refine ⟨_, rfl, 1 + t, rfl, by omega, by omega, for_range (lo := 0) (n := (1 + t).toNat) (CovL K H r a ns f way (1 + t))
      ⟨none, none, [], [], rfl, bb, R2.same s3, hf, s3 _ _ hf2, .nil, rfl, fun _ h => (nomatch h), fun _ _ h => (nomatch h)⟩ ?_ ?_⟩
    · rintro b σ Hb hb ⟨v5, v6, ts, cov, rfl, C⟩
      have hb6 : b < 6 := by omega
      have cm : ∀ {H3 : Hp} {os : List Int} {s : Addr}, CovAt K H H3 r a ns f b ts cov → H3 s = some (.lst (iv os)) → Asc os (b : Int) →
          CovM K H r a ns f way (1 + t) b [some (.ref r), some (.int 6), some (.ref f), some (.int way), some (.int (1 + t)), some (.int ((0 : Int) + (b : Int))), some (.ref s), none] H3 := fun c h q => ⟨_, _, _, _, rfl, c, h, q⟩
      -- the blocks that are drawn
      refine ⟨CovM K H r a ns f way (1 + t) b, ?_, ?_⟩
      · refine ⟨_, rfl, (0 : Int) + (b : Int), rfl, by omega, by omega, fun D hD => ?_⟩
        have nDr : D ≠ r := C.row.ne hD
        refine lc_range (lo := 0) (n := ((0 : Int) + (b : Int)).toNat) (fun j H3 => CovAt K H H3 r a ns f b ts cov ∧ But r Hb H3 ∧ ∃ os, H3 D = some (.lst (iv os)) ∧ Asc os (j : Int)) ⟨C.same (same_new hD), But.of (same_new hD), [], upd_same, Asc.nil _⟩ ?_ ?_
        · rintro j H3 hj ⟨C3, b3, os, h3, ha⟩
          refine ⟨rfl, ?_⟩
          refine ⟨_, rfl, r, a, ns, 3, rfl, C3.row, by decide, by decide, fun z H4 z0 z1 b4 R4 => ⟨rfl, _, rfl, ?_⟩⟩
          have C4 : CovAt K H H4 r a ns f b ts cov := ⟨C3.but.trans b4, R4, C3.new, b4 _ _ nfr C3.lst, tis_kp C3.prs (C3.row.kp b4), C3.len, C3.asc, C3.low⟩
          have h4 := b4 _ _ nDr h3
          have nDf : D ≠ f := fun q => by rw [q, C.lst] at hD; cases hD
          refine ite2 (fun _ => ?_) (fun _ => ?_)
          · have hl := ha.len
            refine ⟨_, rfl, _, h4, lt_line (by rw [List.length_map]; omega), ⟨C4.but.updN ?_, R4.set h4 nDr, C4.new, by rw [upd_ne nDf.symm]; exact C4.lst, tis_kp C4.prs (kp_set h4), C4.len, C4.asc, C4.low⟩, (b3.trans b4).updN hD, os ++ [(0 : Int) + (j : Int)], ?_, ha.snoc⟩
            · exact C.but.free hD nDr
            · rw [upd_same, iv_append]
              rfl
          · exact ⟨C4, b3.trans b4, os, h4, ha.mono (by omega)⟩
        · rintro H3 ⟨C3, _, os, h3, ha⟩
          exact cm C3 h3 (ha.mono (by omega))
      · -- none
        rintro σ1 H3 ⟨s1, os1, ts1, cov1, rfl, C1, h1, a1⟩
        refine ⟨CovM K H r a ns f way (1 + t) b, ?_, ?_⟩
        · refine ⟨_, rfl, rfl, _, rfl, ?_⟩
          refine ite2 (fun _ => ?_) (fun _ => ⟨_, _, _, _, rfl, C1, h1, a1⟩)
          exact ⟨Nat.zero_le _, fun p hp => ⟨p, [], _, _, rfl, C1.same (same_new hp), upd_same, Asc.nil _⟩⟩
        -- the one ahead
        rintro σ1 H3 ⟨s1, os1, ts1, cov1, rfl, C1, h1, a1⟩
        refine ⟨CovM K H r a ns f way (1 + t) b, ?_, ?_⟩
        · refine ⟨_, rfl, rfl, _, rfl, ?_⟩
          refine ite2 (fun _ => ?_) (fun _ => ⟨_, _, _, _, rfl, C1, h1, a1⟩)
          refine ⟨_, rfl, (0 : Int) + (b : Int), rfl, RgOk.of_le (by omega) (by omega) (by omega) (by omega), fun p hp => ?_⟩
          refine ⟨_, rfl, _, rfl, p, _, rfl, SqL.of upd_same, fun z hz => ?_⟩
          obtain ⟨i, j, ec⟩ := cutV_iv (upto b) (some (-1)) none
          have e0 : rgV 0 ((0 : Int) + (b : Int)) = iv (upto b) := by rw [Int.zero_add]; exact rgV_upto b
          refine ⟨z, _, _, _, rfl, (C1.same (same_new hp)).same (same_new hz), ?_, (upto_asc b).cut i j⟩
          rw [upd_same, ← ec, ← e0]
        -- the upper half from the lower half
        rintro σ1 H3 ⟨s1, os1, ts1, cov1, rfl, C1, h1, a1⟩
        refine ⟨CovM K H r a ns f way (1 + t) b, ?_, ?_⟩
        · refine ⟨_, rfl, rfl, _, rfl, ?_⟩
          refine ite2 (fun _ => ?_) (fun _ => ⟨_, _, _, _, rfl, C1, h1, a1⟩)
          refine ⟨_, rfl, (0 : Int) + (b : Int), rfl, by omega, by omega, fun D hD => ?_⟩
          refine lc_range (lo := 0) (n := ((0 : Int) + (b : Int)).toNat) (fun j H4 => Same H3 H4 ∧ ∃ os, H4 D = some (.lst (iv os)) ∧ Asc os (j : Int)) ⟨same_new hD, [], upd_same, Asc.nil _⟩ ?_ ?_
          · rintro j H4 hj ⟨s4, os, h4, ha⟩
            have hl := ha.len
            have add : ∃ acc, H4 D = some (.lst acc) ∧ acc.length < sizeLine ∧ Same H3 (upd H4 D (.lst (acc ++ [V.int ((0 : Int) + (j : Int))]))) ∧
                ∃ os, (upd H4 D (.lst (acc ++ [V.int ((0 : Int) + (j : Int))]))) D = some (.lst (iv os)) ∧ Asc os ((j + 1 : Nat) : Int) :=
              ⟨_, h4, lt_line (by rw [List.length_map]; omega), same_upd s4 hD, os ++ [(0 : Int) + (j : Int)], by rw [upd_same, iv_append]; rfl, ha.snoc⟩
            have go : Same H3 H4 ∧ ∃ os, H4 D = some (.lst (iv os)) ∧ Asc os ((j + 1 : Nat) : Int) := ⟨s4, os, h4, ha.mono (by omega)⟩
            refine ⟨rfl, ?_⟩
            refine ⟨_, rfl, _, _, rfl, rfl, .inl ⟨by decide, by decide⟩, _, rfl, _, _, rfl, rfl, _, rfl, ?_⟩
            refine ite2 (fun _ => ?_) (fun _ => ⟨false, rfl, iteF go⟩)
            refine ⟨_, rfl, _, _, rfl, rfl, .inl ⟨by decide, by decide⟩, _, _, rfl, rfl, _, rfl, ?_⟩
            exact ite2 (fun _ => ⟨_, rfl, add⟩) (fun _ => go)
          · rintro H4 ⟨s4, os, h4, ha⟩
            exact ⟨D, os, _, _, rfl, C1.same s4, h4, ha.mono (by omega)⟩
        -- the near ones of those that are drawn
        rintro σ1 H3 ⟨s1, os1, ts1, cov1, rfl, C1, h1, a1⟩
        refine ⟨CovM K H r a ns f way (1 + t) b, ?_, ?_⟩
        · refine ⟨_, rfl, rfl, _, rfl, ?_⟩
          refine ite2 (fun _ => ?_) (fun _ => ⟨_, _, _, _, rfl, C1, h1, a1⟩)
          refine ⟨_, rfl, s1, rfl, ⟨_, SqL.of h1⟩, fun D hD => ?_⟩
          refine lc_list (K := K) (a := s1) (xs := iv os1) (fun j H4 => Same H3 H4 ∧ H4 D = some (.lst (iv ((os1.take j).filter fun o => decide ((0 : Int) + (b : Int) - o < 3))))) ⟨same_new hD, upd_same⟩ (fun j H4 _ ⟨s4, _⟩ => SqL.of (s4 _ _ h1)) ?_ ?_
          · rintro j x H4 hx ⟨s4, h4⟩
            obtain ⟨o, ho, rfl⟩ := iv_at hx
            have hl := a1.len
            refine ⟨rfl, ?_⟩
            refine ⟨_, rfl, _, rfl, _, _, rfl, rfl, _, _, rfl, rfl, _, rfl, ?_⟩
            refine ite2 (fun hyes => ?_) (fun hno => ?_)
            · refine ⟨_, rfl, _, h4, ?_, same_upd s4 hD, ?_⟩
              · rw [List.length_map]
                refine lt_line (Nat.le_trans (List.length_filter_le _ _) ?_)
                rw [List.length_take]
                omega
              · have e1 : [o].filter (fun o => decide ((0 : Int) + (b : Int) - o < 3)) = [o] := List.filter_cons_of_pos hyes
                rw [upd_same, take_snoc ho, List.filter_append, e1, iv_append]
                rfl
            · refine ⟨s4, ?_⟩
              have e1 : [o].filter (fun o => decide ((0 : Int) + (b : Int) - o < 3)) = [] := List.filter_cons_of_neg hno
              rw [take_snoc ho, List.filter_append, e1, List.append_nil]
              exact h4
          · rintro H4 ⟨s4, h4⟩
            rw [List.length_map, List.take_length] at h4
            exact ⟨D, _, _, _, rfl, C1.same s4, h4, a1.filter _⟩
        -- found.append(tuple(some))
        rintro σ1 H3 ⟨s1, os1, ts1, cov1, rfl, C1, h1, a1⟩
        have ela := paired_len C1.prs
        have hcl := C1.len
        refine ⟨_, rfl, .inl ⟨rfl, _, SqL.of C1.lst⟩, _, rfl, s1, _, rfl, .inl ⟨SqL.of h1, fun p hp => ?_⟩⟩
        have sp := same_new (o := .tup (iv os1)) hp
        have C2 := C1.same sp
        refine ⟨f, _, _, rfl, rfl, C2.lst, lt_line (by rw [List.length_map]; omega), ?_⟩
        have kpf := kp_set (o := .lst (ts1.map V.ref ++ [V.ref p])) C2.lst
        refine ⟨_, _, ts1 ++ [p], cov1 ++ [os1], rfl, C2.but.updN C2.new, C2.row.set C2.lst nfr, C2.new, ?_, ?_, ?_, ?_, ?_⟩
        · rw [upd_same, List.map_append]
          rfl
        · exact paired_append (tis_kp C2.prs kpf) (.cons (TI.kp (show TI _ p os1 from upd_same) kpf) .nil)
        · rw [List.length_append, hcl]
          rfl
        · intro c hc
          rcases List.mem_append.mp hc with z | z
          · exact C1.asc c z
          · rw [List.mem_singleton.mp z]
            exact a1.1
        · intro i c hc
          rcases Nat.lt_or_ge i cov1.length with z | z
          · rw [List.getElem?_append_left z] at hc
            exact C1.low i c hc
          · have hi := (List.getElem?_eq_some_iff.mp hc).1
            rw [List.length_append, List.length_singleton] at hi
            have ei : i = b := by omega
            rw [List.getElem?_append_right z, ei, hcl, Nat.sub_self] at hc
            cases hc
            rw [ei]
            exact a1.2
    · rintro σ Hb ⟨v5, v6, ts, cov, rfl, C⟩
      refine ⟨_, rfl, f, _, rfl, .inl ⟨SqL.of C.lst, fun p hp => ?_⟩⟩
      have sp := same_new (o := .tup (ts.map V.ref)) hp
      have hcl := C.len
      exact k _ p cov (C.but.trans (But.of sp)) (C.row.same sp) ⟨ts, upd_same, tis_kp C.prs (Kp.of sp)⟩ ⟨by omega, by omega, C.asc, C.low⟩
theorem ok_market (T : Txt K mg e) : FnOk P w K mg base CX0 3 e.a_l_market e.d_l_market p_l_market (spMarket K) := by
  refine T.l_market.F.ok sc_l_market (fun vs H Q E h => ?_) (fun cdv A outer s H vs Q E hr h => ?_)
  · obtain ⟨r, a, ns, rfl, _⟩ := h
    rfl
  · obtain ⟨r, a, ns, rfl, hR, k⟩ := h
    have GC : FnOk P w K mg base CX0 2 e.a_l_covers e.d_l_covers p_l_covers (spCovers K) := ok_covers T
    have GN : FnOk P w K mg base CX0 2 e.a_l_numbers e.d_l_numbers p_l_numbers (spNumbers K) := ok_numbers T
    refine ⟨_, pss_cons (ps_set (i := 2) sc_l_market.nd rfl (.inl rfl) (pe_call GC hr rfl T.l_covers.m T.l_covers.F.kp T.l_covers.b .nil pass0 (pa_cons (pv 0) (pa_cons (pv 1) pa_nil))))
      (pss_one (ps_ret (pe_tup (pa_cons (pv 2)
        (pa_cons (pe_call GN hr rfl T.l_numbers.m T.l_numbers.F.kp T.l_numbers.b .nil pass0 (pa_cons (pv 0) (pa_cons (pe_callB call_len_seq (by rfl) T.no_len PySem.boot_len (pa_cons (pv 2) pa_nil)) (pa_cons pe_int pa_nil))))
        (pa_cons (pe_call GN hr rfl T.l_numbers.m T.l_numbers.F.kp T.l_numbers.b .nil pass0 (pa_cons (pv 0) (pa_cons (pe_callB call_len_seq (by rfl) T.no_len PySem.boot_len (pa_cons (pv 2) pa_nil)) (pa_cons pe_int pa_nil)))) pa_nil)))))), ?_⟩
    refine ⟨_, rfl, _, rfl, r, a, ns, rfl, hR, fun H1 t cov b1 R1 ⟨ts, ht1, ht2⟩ good => ?_⟩
    have elt := paired_len ht2
    have hn1 := good.n1
    refine ⟨_, rfl, _, rfl, _, rfl, t, _, rfl, .inr (SqT.of ht1), r, a, ns, cov.length, 9, by rw [List.length_map, elt]; rfl, R1, hn1, by decide, by decide, fun H2 g gs b2 R2 hg gl gb => ?_⟩
    have k2 := R1.kp b2
    refine ⟨_, rfl, _, rfl, t, _, rfl, .inr (SqT.of (k2 _ _ ht1)), r, a, ns, cov.length, 50, by rw [List.length_map, elt]; rfl, R2, hn1, by decide, by decide, fun H3 c cs b3 R3 hc cl cb => ⟨by show 3 ≤ sizeLine; decide, fun p hp => ?_⟩⟩
    have k3 := R2.kp b3
    have sp := same_new (o := .tup [.ref t, .ref g, .ref c]) hp
    exact k _ p t g c cov gs cs (((b1.trans b2).trans b3).trans (But.of sp)) (R3.same sp) upd_same (((TT.kp (⟨ts, ht1, ht2⟩ : TT H1 t cov) k2).kp k3).same sp) ((hg.kp k3).same sp) (hc.same sp) ⟨good, gl, cl, gb, cb⟩
theorem six_at {x0 x1 x2 x3 x4 x5 lo hi st : Int} (h0 : 0 ≤ st) (h1 : st < 6) (hb : ∀ x ∈ [x0, x1, x2, x3, x4, x5], lo ≤ x ∧ x ≤ hi) : ∃ v, atI (iv [x0, x1, x2, x3, x4, x5]) st = some (.int v) ∧ lo ≤ v ∧ v ≤ hi := by
  have h : st.toNat < [x0, x1, x2, x3, x4, x5].length := by show st.toNat < 6; omega
  exact ⟨_, int_at (j := st.toNat) (by omega) (List.getElem?_eq_getElem h), hb _ (List.getElem_mem h)⟩
theorem ok_price (T : Txt K mg e) : FnOk P w K mg base CX0 2 e.a_l_price e.d_l_price p_l_price (spPrice K) := by
  refine T.l_price.F.ok sc_l_price (fun vs H Q E h => ?_) (fun cdv A outer s H vs Q E hr h => ?_)
  · obtain ⟨r, a, ns, rfl, _⟩ := h
    rfl
  · obtain ⟨r, a, ns, rfl, hR, k⟩ := h
    have GT : FnOk P w K mg base CX0 1 e.a_l_taken e.d_l_taken p_l_taken (spTaken K) := ok_taken T
    refine ⟨_, pss_cons (ps_set (i := 1) sc_l_price.nd rfl (.inl rfl) (pe_call GT hr rfl T.l_taken.m T.l_taken.F.kp T.l_taken.b .nil pass0 (pa_cons (pv 0) (pa_cons pe_int pa_nil))))
      (pss_cons (ps_if (pt_cmpR op_eq (pv 1) pe_int (nomark _)) (pss_one (ps_ret (pe_ix ix_list
          (pe_lst (pa_cons (pe_tup (pa_cons pe_int (pa_cons pe_int pa_nil))) (pa_cons (pe_tup (pa_cons pe_int (pa_cons pe_int pa_nil))) (pa_cons (pe_tup (pa_cons pe_int (pa_cons pe_int pa_nil)))
            (pa_cons (pe_tup (pa_cons (pe_op op_pow pe_int pe_int) (pa_cons pe_int pa_nil))) (pa_cons (pe_tup (pa_cons pe_int (pa_cons (pe_op op_pow pe_int pe_int) pa_nil))) pa_nil))))))
          (pe_call GT hr rfl T.l_taken.m T.l_taken.F.kp T.l_taken.b .nil pass0 (pa_cons (pv 0) (pa_cons pe_int pa_nil))) (fun _ _ => rfl)))) pss_nil)
      (pss_cons (ps_par (i := 2) (j := 3) rfl sc_l_price.nd rfl rfl (by decide) rfl rfl
          (pa_cons (pe_ix ix_list (pe_lst (pa_cons pe_int (pa_cons pe_int (pa_cons pe_int (pa_cons pe_int (pa_cons pe_int (pa_cons pe_int pa_nil))))))) (pe_op op_sub (pv 1) pe_int) (fun _ _ => rfl))
          (pa_cons (pe_ix ix_list (pe_lst (pa_cons pe_int (pa_cons pe_int (pa_cons pe_int (pa_cons pe_int (pa_cons pe_int (pa_cons pe_int pa_nil))))))) (pe_op op_sub (pv 1) pe_int) (fun _ _ => rfl)) pa_nil)) rfl)
      (pss_one (ps_ret (pe_call (ok_low T) hr rfl T.l_low.m T.l_low.F.kp T.l_low.b .nil pass0
        (pa_cons (pe_call GT hr rfl T.l_taken.m T.l_taken.F.kp T.l_taken.b .nil pass0 (pa_cons (pv 0) (pa_cons (pv 2) pa_nil)))
        (pa_cons (pe_op op_add pe_int (pe_call GT hr rfl T.l_taken.m T.l_taken.F.kp T.l_taken.b .nil pass0 (pa_cons (pv 0) (pa_cons (pv 3) pa_nil)))) pa_nil))))))), ?_⟩
    refine ⟨_, rfl, r, a, ns, 7, rfl, hR, by decide, by decide, fun way H1 w0 w1 b1 R1 => ?_⟩
    refine ⟨_, rfl, rfl, _, rfl, ?_⟩
    rw [dec_int]
    refine ite2 (fun _ => ?_) (fun hno => ?_)
    · -- one of five
      refine ⟨by show 2 ≤ sizeLine; decide, fun q0 g0 => ⟨by show 2 ≤ sizeLine; decide, fun q1 g1 => ⟨by show 2 ≤ sizeLine; decide, fun q2 g2 => ?_⟩⟩⟩
      refine ⟨_, _, rfl, rfl, ⟨by decide, by decide, by decide⟩, by show 2 ≤ sizeLine; decide, fun q3 g3 => ?_⟩
      refine ⟨_, _, rfl, rfl, ⟨by decide, by decide, by decide⟩, by show 2 ≤ sizeLine; decide, fun q4 g4 => ⟨by show 5 ≤ sizeLine; decide, fun l gl => ?_⟩⟩
      have z4 := same_new (o := .tup [.int 1, .int (10 ^ (6 : Int).toNat)]) g4
      have z3 := (same_new (o := .tup [.int (10 ^ (6 : Int).toNat), .int 1]) g3).trans z4
      have z2 := (same_new (o := .tup [.int 1, .int 1]) g2).trans z3
      have z1 := (same_new (o := .tup [.int 200, .int 1]) g1).trans z2
      have z0 := (same_new (o := .tup [.int 0, .int 1]) g0).trans z1
      have zl := same_new (o := .lst [.ref q0, .ref q1, .ref q2, .ref q3, .ref q4]) gl
      have R2 := (R1.same z0).same zl
      have nlr : l ≠ r := (R1.same z0).ne gl
      have t0 : TI _ q0 [0, 1] := (z1.trans zl) _ _ (upd_same (a := q0))
      have t1 : TI _ q1 [200, 1] := (z2.trans zl) _ _ (upd_same (a := q1))
      have t2 : TI _ q2 [1, 1] := (z3.trans zl) _ _ (upd_same (a := q2))
      have t3 : TI _ q3 [1000000, 1] := (z4.trans zl) _ _ (upd_same (a := q3))
      have t4 : TI _ q4 [1, 1000000] := zl _ _ (upd_same (a := q4))
      have bz := (b1.trans (But.of z0)).trans (But.of zl)
      have hl := upd_same (H := (upd (upd (upd (upd (upd H1 q0 (.tup [.int 0, .int 1])) q1 (.tup [.int 200, .int 1])) q2 (.tup [.int 1, .int 1])) q3 (.tup [.int (10 ^ (6 : Int).toNat), .int 1])) q4 (.tup [.int 1, .int (10 ^ (6 : Int).toNat)]))) (a := l) (o := .lst [.ref q0, .ref q1, .ref q2, .ref q3, .ref q4])
      refine ⟨_, rfl, r, a, ns, 5, rfl, R2, by decide, by decide, fun u H2 u0 u1 b2 R3 => ?_⟩
      have kp2 := R2.kp b2
      have hl2 := b2 _ _ nlr hl
      have : u = 0 ∨ u = 1 ∨ u = 2 ∨ u = 3 ∨ u = 4 := by omega
      rcases this with z | z | z | z | z
      · exact ⟨l, _, _, _, rfl, rfl, SqL.of hl2, at_of (j := 0) z rfl, k _ q0 0 1 (bz.trans b2) R3 (t0.kp kp2) ⟨by decide, by decide, by decide, by decide, by decide⟩⟩
      · exact ⟨l, _, _, _, rfl, rfl, SqL.of hl2, at_of (j := 1) z rfl, k _ q1 200 1 (bz.trans b2) R3 (t1.kp kp2) ⟨by decide, by decide, by decide, by decide, by decide⟩⟩
      · exact ⟨l, _, _, _, rfl, rfl, SqL.of hl2, at_of (j := 2) z rfl, k _ q2 1 1 (bz.trans b2) R3 (t2.kp kp2) ⟨by decide, by decide, by decide, by decide, by decide⟩⟩
      · exact ⟨l, _, _, _, rfl, rfl, SqL.of hl2, at_of (j := 3) z rfl, k _ q3 1000000 1 (bz.trans b2) R3 (t3.kp kp2) ⟨by decide, by decide, by decide, by decide, Int.gcd_one_right _⟩⟩
      · exact ⟨l, _, _, _, rfl, rfl, SqL.of hl2, at_of (j := 4) z rfl, k _ q4 1 1000000 (bz.trans b2) R3 (t4.kp kp2) ⟨by decide, by decide, by decide, by decide, Int.gcd_one_left _⟩⟩
    · have w2 : way ≠ 0 := fun z => hno (by rw [z]; rfl)
      obtain ⟨ab, ea, ha0, ha1⟩ := six_at (st := way - 1) (x0 := 9) (x1 := 30) (x2 := 60) (x3 := 200) (x4 := 9) (x5 := 60) (lo := 1) (hi := 200) (by omega) (by omega) (by decide)
      obtain ⟨be, eb, hb0, hb1⟩ := six_at (st := way - 1) (x0 := 3) (x1 := 9) (x2 := 3) (x3 := 30) (x4 := 9) (x5 := 1) (lo := 1) (hi := 30) (by omega) (by omega) (by decide)
      refine ⟨by show 6 ≤ sizeLine; decide, fun l gl => ⟨_, rfl, _, _, rfl, rfl, l, _, _, _, rfl, rfl, SqL.of upd_same, ea, ?_⟩⟩
      refine ⟨by show 6 ≤ sizeLine; decide, fun m gm => ⟨_, rfl, _, _, rfl, rfl, m, _, _, _, rfl, rfl, SqL.of upd_same, eb, ?_⟩⟩
      have zs := (same_new (o := .lst [.int 9, .int 30, .int 60, .int 200, .int 9, .int 60]) gl).trans (same_new (o := .lst [.int 3, .int 9, .int 3, .int 30, .int 9, .int 1]) gm)
      refine ⟨_, _, rfl, ?_⟩
      refine ⟨_, rfl, _, rfl, r, a, ns, ab, rfl, R1.same zs, by omega, by omega, fun x H2 x0 x1 b2 R2 => ?_⟩
      refine ⟨_, rfl, _, rfl, r, a, ns, be, rfl, R2, by omega, by omega, fun y H3 y0 y1 b3 R3 => ⟨_, _, rfl, rfl, x, 1 + y, rfl, by omega, by omega, fun H4 p s4 hp => ?_⟩⟩
      exact k _ p _ _ ((((b1.trans (But.of zs)).trans b2).trans b3).trans (But.of s4)) (R3.same s4) hp (price_low x0 (by omega) (by omega) (by omega))
end
end Pk
namespace Pk
open PySem PySem.Spec PyProof.Rows L2
theorem Res.same {H H' : Hp} {r : Addr} {ws : List Int} {q : Int} {best : List (List Int)} (h : Res H r ws q best) (s : Same H H') : Res H' r ws q best := by
  obtain ⟨l0, l1, a, b, c, h0, h1, h2, t0, t1, t2⟩ := h
  exact ⟨l0, l1, a, b, c, h0, h1, s _ _ h2, t0.same s, t1.same s, t2.same s⟩
/-- what stands through the whole law -/
structure LawW (K : PySem.W.Frag) (C : Addr) (H : Hp) (a r t gA cA g L : Addr) (ns : List Int) (cov : List (List Int)) (gs cs : List Int) : Prop where
  row : Row K H r a ns
  hcov : TT H t cov
  hgs : TI H gA gs
  hcs : TI H cA cs
  mkt : Market cov gs cs
  gr : Gr C H g t
  lots : LT H L (srt (lotsN cov.length))
  ne : L ≠ r
section
variable {K : PySem.W.Frag} {C a r t gA cA g L : Addr} {H H' : Hp} {ns : List Int} {cov : List (List Int)} {gs cs : List Int}
theorem LawW.same (w : LawW K C H a r t gA cA g L ns cov gs cs) (s : Same H H') : LawW K C H' a r t gA cA g L ns cov gs cs :=
  ⟨w.row.same s, w.hcov.same s, w.hgs.same s, w.hcs.same s, w.mkt, w.gr.same s, w.lots.same s, w.ne⟩
theorem LawW.but (w : LawW K C H a r t gA cA g L ns cov gs cs) (s : But r H H') (R : Row K H' r a ns) : LawW K C H' a r t gA cA g L ns cov gs cs := by
  have k := w.row.kp s
  obtain ⟨⟨i, h, x, hr⟩, _⟩ := w.row
  exact ⟨R, w.hcov.kp k, w.hgs.kp k, w.hcs.kp k, w.mkt, w.gr.but hr s, w.lots.but w.ne hr s, w.ne⟩
end
def LawI (K : PySem.W.Frag) (C a r t gA cA g L : Addr) (ns : List Int) (cov : List (List Int)) (gs cs : List Int) (σ : L2.St) (H : Hp) : Prop := ∃ v7 v8 v9 v10 v11 v12 v13 : Option V,
  σ = [some (.ref a), some (.ref r), some (.ref t), some (.ref gA), some (.ref cA), some (.ref g), some (.ref L), v7, v8, v9, v10, v11, v12, v13] ∧ LawW K C H a r t gA cA g L ns cov gs cs
def LawJ (K : PySem.W.Frag) (C a r t gA cA g L : Addr) (ns : List Int) (cov : List (List Int)) (gs cs : List Int) (pA wA : Addr) (p q : Int) (σ : L2.St) (H : Hp) : Prop := ∃ v7 v10 v11 v12 v13 : Option V,
  σ = [some (.ref a), some (.ref r), some (.ref t), some (.ref gA), some (.ref cA), some (.ref g), some (.ref L), v7, some (.ref pA), some (.ref wA), v10, v11, v12, v13] ∧ LawW K C H a r t gA cA g L ns cov gs cs ∧
  TI H pA [p, q] ∧ TI H wA (worthsOf gs cs p q)
def spLaw (K : PySem.W.Frag) : Sp := fun vs H Q _ => ∃ (a : Addr) (ns : List Int), vs = [.ref a] ∧ Scr K H a (iv ns) ∧ ns.length ≤ 63 ∧ ∀ H', Q (.bl true) H'
section
variable {P : Program} {w : World} {K : PySem.W.Frag} {mg : Str → Option Value} {base : Heap} {e : Lay}
theorem ok_law (T : Txt K mg e) : FnOk P w K mg base CX0 7 e.a_l_law e.d_l_law p_l_law (spLaw K) := by
  refine T.l_law.F.ok sc_l_law (fun vs H Q E h => ?_) (fun cdv A outer s H vs Q E hr h => ?_)
  · obtain ⟨a, ns, rfl, _⟩ := h
    rfl
  · obtain ⟨a, ns, rfl, hS, hl, k⟩ := h
    have GM : FnOk P w K mg base CX0 3 e.a_l_market e.d_l_market p_l_market (spMarket K) := ok_market T
    have GP : FnOk P w K mg base CX0 2 e.a_l_price e.d_l_price p_l_price (spPrice K) := ok_price T
    have GK : FnOk P w K mg base CX0 2 e.a_l_pick e.d_l_pick p_l_pick (spPick K) := ok_pick T
    have GI : FnOk P w K mg base CX0 1 e.a_l_alike e.d_l_alike p_l_alike spAlikeI := ok_alikeI T
    have G2 : FnOk P w K mg base CX0 2 e.a_l_alike e.d_l_alike p_l_alike (spAlikeT spAlikeI) := ok_alikeT T GI
    have G3 : FnOk P w K mg base CX0 3 e.a_l_alike e.d_l_alike p_l_alike (spAlikeT (spAlikeT spAlikeI)) := ok_alikeT T G2
    refine ⟨_, (pss_cons (ps_set (i := 1) sc_l_law.nd rfl (.inl rfl) (pe_lst (pa_cons (pv 0) (pa_cons pe_int (pa_cons pe_int (pa_cons pe_int pa_nil))))))
      (pss_cons (ps_asg (pe_call GM (hr.mono (by decide)) rfl T.l_market.m T.l_market.F.kp T.l_market.b .nil pass0 (pa_cons (pv 1) (pa_cons pe_int pa_nil))) (pg_tup (by rfl) (pgs_cons (pg_name (i := 2) sc_l_law.nd rfl (.inl rfl)) (pgs_cons (pg_name (i := 3) sc_l_law.nd rfl (.inl rfl)) (pgs_cons (pg_name (i := 4) sc_l_law.nd rfl (.inl rfl)) pgs_nil)))))
      (pss_cons (ps_par (i := 5) (j := 6) rfl sc_l_law.nd rfl rfl (by decide) rfl rfl (pa_cons (pe_make T.mkC (ok_ginit T) (hr.mono (by decide)) (by rfl) T.mgC T.b_ginit .nil pass0 (pa_cons (pv 2) pa_nil)) (pa_cons (pe_call (ok_lots T) (hr.mono (by decide)) rfl T.l_lots.m T.l_lots.F.kp T.l_lots.b .nil pass0 (pa_cons (pe_callB call_len_seq (by rfl) T.no_len PySem.boot_len (pa_cons (pv 2) pa_nil)) pa_nil)) pa_nil)) rfl)
      (pss_cons (ps_for PassesOwn.never rfl (pi_range1 (by rfl) T.no_range (pa_cons pe_int pa_nil)) (pg_name (i := 7) sc_l_law.nd rfl (.inl rfl))
      (pss_cons (ps_set (i := 8) sc_l_law.nd rfl (.inl rfl) (pe_call GP (hr.mono (by decide)) rfl T.l_price.m T.l_price.F.kp T.l_price.b .nil pass0 (pa_cons (pv 1) pa_nil)))
      (pss_cons (ps_set (i := 9) sc_l_law.nd rfl (.inl rfl) (pe_call (ok_at T) (hr.mono (by decide)) rfl T.l_at.m T.l_at.F.kp T.l_at.b .nil pass0 (pa_cons (pv 3) (pa_cons (pv 4) (pa_cons (pv 8) pa_nil)))))
      (pss_cons (ps_set (i := 10) sc_l_law.nd rfl (.inl rfl) (pe_call (ok_l_best T) (hr.mono (by decide)) rfl T.l_best.m T.l_best.F.kp T.l_best.b .nil pass0 (pa_cons (pv 2) (pa_cons (pv 9) pa_nil))))
      (pss_cons (ps_set (i := 11) sc_l_law.nd rfl (.inl rfl) (pe_tup (pa_cons (pe_call (ok_low T) (hr.mono (by decide)) rfl T.l_low.m T.l_low.F.kp T.l_low.b .nil pass0 (pa_cons (pe_call (ok_l_sum T) (hr.mono (by decide)) rfl T.l_sum.m T.l_sum.F.kp T.l_sum.b .nil pass0 (pa_cons (pv 9) (pa_cons (pe_ix ix_list (pv 10) pe_int (fun _ _ => rfl)) pa_nil))) (pa_cons (pe_ix ix_tup (pv 8) pe_int (fun _ _ => rfl)) pa_nil))) (pa_cons (pe_ix ix_list (pv 10) pe_int (fun _ _ => rfl)) (pa_cons (pe_ix ix_list (pv 10) (pe_un un_neg pe_int) (fun _ _ => rfl)) pa_nil)))))
      (pss_cons (ps_if (pt_not (pt_val (pe_call G3 (hr.mono (by decide)) rfl T.l_alike.m T.l_alike.F.kp T.l_alike.b .nil pass0 (pa_cons (pe_call (ok_best_at T) hr rfl T.best_at.m T.best_at.F.kp T.best_at.b .nil pass0 (pa_cons (pv 5) (pa_cons (pv 3) (pa_cons (pv 4) (pa_cons (pv 8) pa_nil))))) (pa_cons (pv 11) pa_nil))))) pss_never pss_nil)
      (pss_one (ps_for PassesOwn.never rfl (pi_range1 (by rfl) T.no_range (pa_cons pe_int pa_nil)) (pg_name (i := 12) sc_l_law.nd rfl (.inl rfl))
      (pss_cons (ps_set (i := 13) sc_l_law.nd rfl (.inl rfl) (pe_call GK (hr.mono (by decide)) rfl T.l_pick.m T.l_pick.F.kp T.l_pick.b .nil pass0 (pa_cons (pv 1) (pa_cons (pv 6) pa_nil))))
      (pss_cons (ps_set (i := 11) sc_l_law.nd rfl (.inl rfl) (pe_call (ok_low T) (hr.mono (by decide)) rfl T.l_low.m T.l_low.F.kp T.l_low.b .nil pass0 (pa_cons (pe_call (ok_l_sum T) (hr.mono (by decide)) rfl T.l_sum.m T.l_sum.F.kp T.l_sum.b .nil pass0 (pa_cons (pv 9) (pa_cons (pv 13) pa_nil))) (pa_cons (pe_ix ix_tup (pv 8) pe_int (fun _ _ => rfl)) pa_nil))))
      (pss_one (ps_if (pt_not (pt_val (pe_call G2 (hr.mono (by decide)) rfl T.l_alike.m T.l_alike.F.kp T.l_alike.b .nil pass0 (pa_cons (pe_call (ok_worth_at T) hr rfl T.worth_at.m T.worth_at.F.kp T.worth_at.b .nil pass0 (pa_cons (pv 5) (pa_cons (pv 3) (pa_cons (pv 4) (pa_cons (pv 8) (pa_cons (pv 13) pa_nil)))))) (pa_cons (pv 11) pa_nil))))) pss_never pss_nil))))))))))))
      (pss_one (ps_ret pe_bl)))))), ?_⟩
    refine ⟨_, rfl, by show 4 ≤ sizeLine; decide, fun r hr0 => ?_⟩
    have s0 := same_new (o := .lst [.ref a, .int 0, .int 1516, .int 0]) hr0
    have R0 : Row K (upd H r (.lst [.ref a, .int 0, .int 1516, .int 0])) r a ns := ⟨⟨0, 1516, 0, upd_same⟩, hS.step fun b o u q => s0 b _ q, hl⟩
    refine ⟨_, rfl, r, a, ns, rfl, R0, fun H1 m t gA cA cov gs cs b1 R1 hm ht hg hc mk => ?_⟩
    refine ⟨m, _, rfl, SqT.of hm, rfl, _, _, rfl, _, _, rfl, _, _, rfl, rfl, ?_⟩
    -- ground, lots_here = Ground(covers_here), lots(len(covers_here))
    refine ⟨_, rfl, fun g dx gn dn ne => ?_⟩
    have sg : Same H1 (upd (upd H1 dx (.own g)) g (.ins e.C dx [])) := fun b o q => by
      rw [upd_ne (ne_of_none q gn), upd_ne (ne_of_none q dn)]
      exact q
    refine ⟨g, dx, t, cov, rfl, upd_same, ht.same sg, mk.good, fun H2 b2 hG => ⟨rfl, ?_⟩⟩
    have s12 : Same H1 H2 := fun b o q => b2 b o (ne_of_none q gn) (sg b o q)
    obtain ⟨ts, ht1, ht2⟩ := ht.same s12
    have elt := paired_len ht2
    have hn1 := mk.good.n1
    refine ⟨_, rfl, t, _, rfl, .inr (SqT.of ht1), cov.length, by rw [List.length_map, elt]; rfl, hn1, fun H3 L s3 L0 hL => ⟨_, _, rfl, ?_⟩⟩
    have R2 := R1.same s12
    have W : LawW K e.C H3 a r t gA cA g L ns cov gs cs := ⟨R2.same s3, (ht.same s12).same s3, (hg.same s12).same s3, (hc.same s12).same s3, mk, hG.same s3, hL, R2.ne L0⟩
    refine ⟨4, rfl, by decide, by decide, for_range (lo := 0) (n := (4 : Int).toNat) (fun _ σ H' => LawI K e.C a r t gA cA g L ns cov gs cs σ H') ⟨_, _, _, _, _, _, _, rfl, W⟩ ?_ ?_⟩
    · rintro i σ Ha _ ⟨v7, v8, v9, v10, v11, v12, v13, rfl, Wa⟩
      refine ⟨_, rfl, r, a, ns, rfl, Wa.row, fun Hb pA p q bb Rb hp hpr => ?_⟩
      have Wb := Wa.but bb Rb
      have hq0 := hpr.q0
      have hq1 := hpr.q1
      have i1 : atI (iv [p, q]) 1 = some (V.int q) := int_at (j := 1) rfl rfl
      refine ⟨_, rfl, _, rfl, _, rfl, gA, cA, pA, cov, gs, cs, p, q, rfl, Wb.hgs, Wb.hcs, mk, hp, fun Hc wA sc hw => ?_⟩
      have Wc := Wb.same sc
      have hwl := mk.wl p q
      refine ⟨_, rfl, _, rfl, t, wA, cov, _, rfl, Wc.hcov, mk.good, hw, hwl, fun Hd f sd ⟨as, hf, hps⟩ => ?_⟩
      have Wd := Wc.same sd
      have hpd : TI Hd pA [p, q] := (hp.same sc).same sd
      have hwd := hw.same sd
      have hne := bestOf_ne (ws := worthsOf gs cs p q) (pits_ne mk.good)
      have hin : ∀ l ∈ bestOf (worthsOf gs cs p q) (srt (pitsN cov cov.length)), l ∈ lotsN cov.length := fun l hl => pits_lots mk.good (List.mem_filter.mp hl).1
      have hpos := List.length_pos_iff.mpr hne
      obtain ⟨l0, h0⟩ : ∃ l0, (bestOf (worthsOf gs cs p q) (srt (pitsN cov cov.length)))[0]? = some l0 := ⟨_, List.getElem?_eq_getElem hpos⟩
      obtain ⟨l1, h1⟩ : ∃ l1, (bestOf (worthsOf gs cs p q) (srt (pitsN cov cov.length)))[(bestOf (worthsOf gs cs p q) (srt (pitsN cov cov.length))).length - 1]? = some l1 := ⟨_, List.getElem?_eq_getElem (by omega)⟩
      obtain ⟨a0, ha0, u0⟩ := paired_right hps h0
      obtain ⟨a1, ha1, u1⟩ := paired_right hps h1
      have hl0 := hin l0 (List.mem_of_getElem? h0)
      have hll := lotsN_len hl0
      have j0 : atI (as.map V.ref) 0 = some (V.ref a0) := at_of (j := 0) rfl (ref_get ha0)
      have j1 : atI (as.map V.ref) (-1) = some (V.ref a1) := atI_neg1 (by rw [List.length_map, paired_len hps]; exact ref_get ha1)
      -- due
      refine ⟨_, rfl, _, rfl, f, _, _, _, rfl, rfl, SqL.of hf, j0, wA, a0, _, l0, rfl, hwd, u0, by omega, fun o ho => ?_, fun He se => ?_⟩
      · rw [hwl]
        exact lotsN_mem hl0 o ho
      refine ⟨_, rfl, pA, _, _, _, rfl, rfl, (hpd.same se).sq, i1, _, q, rfl, by omega, by omega, fun Hf x sf hx => ?_⟩
      have sdf := se.trans sf
      refine ⟨_, rfl, f, _, _, _, rfl, rfl, SqL.of (sdf _ _ hf), j0, _, rfl, _, rfl, f, _, _, _, rfl, rfl, SqL.of (sdf _ _ hf), j1, by show 3 ≤ sizeLine; decide, fun z hz => ?_⟩
      have sz := same_new (o := .tup [.ref x, .ref a0, .ref a1]) hz
      have sdz := sdf.trans sz
      have hres : Res (upd Hf z (.tup [.ref x, .ref a0, .ref a1])) z (worthsOf gs cs p q) q (bestOf (worthsOf gs cs p q) (srt (pitsN cov cov.length))) :=
        ⟨l0, l1, x, a0, a1, h0, h1, upd_same, hx.same sz, u0.same sdz, u1.same sdz⟩
      have Wz := Wd.same sdz
      have hpz := hpd.same sdz
      have hwz := hwd.same sdz
      refine ⟨_, rfl, _, rfl, _, rfl, _, rfl, g, t, gA, cA, pA, cov, gs, cs, p, q, rfl, Wz.gr, Wz.hcov, Wz.hgs, Wz.hcs, mk, hpz, hpr, fun Hg y sg2 hy => ?_⟩
      obtain ⟨xs, ys, e1, e2, e3, e4, e5⟩ := alike_Res hy (hres.same sg2) (fun l hl => by have := lotsN_len (hin l hl); omega)
      refine ⟨_, rfl, y, z, xs, ys, rfl, e1, e2, e3, e4, e5, fun Hh sh => ⟨true, rfl, iteF ?_⟩⟩
      have szh := sg2.trans sh
      refine ⟨3, rfl, by decide, by decide, for_range (lo := 0) (n := (3 : Int).toNat) (fun _ σ H' => LawJ K e.C a r t gA cA g L ns cov gs cs pA wA p q σ H') ⟨_, _, _, _, _, rfl, Wz.same szh, hpz.same szh, hwz.same szh⟩ ?_ ?_⟩
      · rintro i2 σ Hi _ ⟨v7, v10, v11, v12, v13, rfl, Wi, hpi, hwi⟩
        have elL := srt_len (lotsN cov.length)
        have elM := lotsN_length cov.length
        have h2i : 2 ^ cov.length ≤ 2 ^ 6 := Nat.pow_le_pow_right (by decide) hn1
        have h2p : 0 < 2 ^ cov.length := Nat.pow_pos (by decide)
        refine ⟨_, rfl, _, rfl, r, a, L, ns, srt (lotsN cov.length), rfl, Wi.row, Wi.lots, Wi.ne, by omega, by omega, fun Hj c l bj Rj hl hcl => ?_⟩
        have Wj := Wi.but bj Rj
        have kj := Wi.row.kp bj
        have hpj := hpi.kp kj
        have hwj := hwi.kp kj
        have hlm : l ∈ lotsN cov.length := srt_mem.mp hl
        have hlen := lotsN_len hlm
        refine ⟨_, rfl, _, rfl, wA, c, _, l, rfl, hwj, hcl, by omega, fun o ho => ?_, fun Hk sk => ?_⟩
        · rw [hwl]
          exact lotsN_mem hlm o ho
        refine ⟨_, rfl, pA, _, _, _, rfl, rfl, (hpj.same sk).sq, i1, _, q, rfl, by omega, by omega, fun Hm x2 sm hx2 => ?_⟩
        have sjm := sk.trans sm
        have Wm := Wj.same sjm
        have hpm := hpj.same sjm
        have hwm := hwj.same sjm
        refine ⟨_, rfl, _, rfl, _, rfl, _, rfl, _, rfl, g, t, gA, cA, pA, c, cov, gs, cs, l, p, q, rfl, Wm.gr, Wm.hcov, Wm.hgs, Wm.hcs, mk, hpm, hpr, hcl.same sjm, hlm, fun Hn y2 sn hy2 => ?_⟩
        obtain ⟨xs, ys, e1, e2, e3, e4, e5⟩ := alike_TI hy2 (hx2.same sn) (by show 2 ≤ 1000; decide)
        refine ⟨_, rfl, y2, x2, xs, ys, rfl, e1, e2, e3, e4, e5, fun Ho so => ⟨true, rfl, iteF ?_⟩⟩
        have smo := sn.trans so
        exact ⟨_, _, _, _, _, rfl, Wm.same smo, hpm.same smo, hwm.same smo⟩
      · rintro σ Hi ⟨v7, v10, v11, v12, v13, rfl, Wi, _, _⟩
        exact ⟨_, _, _, _, _, _, _, rfl, Wi⟩
    · rintro σ Ha ⟨v7, v8, v9, v10, v11, v12, v13, rfl, Wa⟩
      exact k _
end
end Pk
namespace Pk
open PySem PySem.Spec PyProof.Rows L2
theorem walk {l : PySem.W.OpenLaw} {q : Program} {loose : List Str} {XP : (Str → Option Value) → Heap → Prop} {YP : World → Heap → Prop} {d : DefRec} {K : Params → PySem.W.Frag} (hn : l.most = some 63) (hdf : d.params.defaults = [])
    (hY : ∀ (w : World) (h : Heap), YP w h → (K w.params).In h)
    (F : ∀ (w : World) (mg : Str → Option Value) (fa : Addr) (h : Heap), (K w.params).In h → h.Ns mainGlobals mg → mg d.name = some (.ref fa) →
      ∃ e : Lay, e.a_l_law = fa ∧ Txt (K w.params) mg e ∧ ∀ (s : Shared) (v : Value), BindsTo s e.d_l_law ⟨[v], []⟩ [("_law_script", v)]) :
    PySem.W.WalkO q loose XP YP l.row.toRowW d [] (fun f vs => PySem.call f vs) :=
  L2.walk_of (n := 63) (k := 7) (x := "_law_script") (CX := fun _ => CX0) (sp := fun w => spLaw (K w.params)) hn (by decide) hdf ⟨rfl, by decide, by decide⟩ hY
    (fun w mg fa h KX G hmg => by
      obtain ⟨e, rfl, T, hb⟩ := F w mg fa h KX G hmg
      exact ⟨e.d_l_law, hb, fun base _ _ => ok_law T⟩)
    (fun _ _ a ns hl hO hS => ⟨a, ns, rfl, Scr.of hO hS, hl, fun _ => rfl⟩) fun _ _ _ _ _ z => z
end Pk
namespace Pk
open PySem L2
theorem all_mk {K : PySem.W.Frag} {h : Heap} {mg : Str → Option Value} {fa C : Addr} (X : K.In h) (G : h.Ns mainGlobals mg) (hfa : mg "law" = some (.ref fa))
    {f0 f1 f2 f3 f4 f5 f6 f7 f8 f9 f10 f11 f12 f13 f14 f15 f16 f17 f18 f19 f20 f21 f22 f23 f24 f25 f26 f27 f28 f29 f30 f31 f32 f33 f34 f35 f36 f37 f38 : Addr} {od0 an0 od1 an1 od2 an2 od3 an3 od4 an4 od5 an5 od6 an6 od7 an7 od8 an8 od9 an9 od10 an10 od11 an11 od12 an12 od13 an13 od14 an14 od15 an15 od16 an16 od17 an17 od18 an18 od19 an19 od20 an20 od21 an21 od22 an22 od23 an23 od24 an24 od25 an25 od26 an26 od27 an27 od28 an28 od29 an29 od30 an30 od31 an31 od32 an32 od33 an33 od34 an34 od35 an35 od36 an36 od37 an37 od38 an38 : Option Addr} {sl0 sl1 sl2 sl3 sl4 sl5 sl6 sl7 sl8 sl9 sl10 sl11 sl12 sl13 sl14 sl15 sl16 sl17 sl18 sl19 sl20 sl21 sl22 sl23 sl24 sl25 sl26 sl27 sl28 sl29 sl30 sl31 sl32 sl33 sl34 sl35 sl36 sl37 sl38 : Array (Option Value)} {oc0 kV0 dc0 pm0 cd0 ct0 oc1 kV1 dc1 pm1 cd1 ct1 oc2 kV2 dc2 pm2 cd2 ct2 oc3 kV3 dc3 pm3 cd3 ct3 oc4 kV4 dc4 pm4 cd4 ct4 oc5 kV5 dc5 pm5 cd5 ct5 oc6 kV6 dc6 pm6 cd6 ct6 oc7 kV7 dc7 pm7 cd7 ct7 oc8 kV8 dc8 pm8 cd8 ct8 oc9 kV9 dc9 pm9 cd9 ct9 oc10 kV10 dc10 pm10 cd10 ct10 oc11 kV11 dc11 pm11 cd11 ct11 oc12 kV12 dc12 pm12 cd12 ct12 oc13 kV13 dc13 pm13 cd13 ct13 oc14 kV14 dc14 pm14 cd14 ct14 oc15 kV15 dc15 pm15 cd15 ct15 oc16 kV16 dc16 pm16 cd16 ct16 oc17 kV17 dc17 pm17 cd17 ct17 oc18 kV18 dc18 pm18 cd18 ct18 oc19 kV19 dc19 pm19 cd19 ct19 oc20 kV20 dc20 pm20 cd20 ct20 oc21 kV21 dc21 pm21 cd21 ct21 oc22 kV22 dc22 pm22 cd22 ct22 oc23 kV23 dc23 pm23 cd23 ct23 oc24 kV24 dc24 pm24 cd24 ct24 oc25 kV25 dc25 pm25 cd25 ct25 oc26 kV26 dc26 pm26 cd26 ct26 oc27 kV27 dc27 pm27 cd27 ct27 oc28 kV28 dc28 pm28 cd28 ct28 oc29 kV29 dc29 pm29 cd29 ct29 oc30 kV30 dc30 pm30 cd30 ct30 oc31 kV31 dc31 pm31 cd31 ct31 oc32 kV32 dc32 pm32 cd32 ct32 oc33 kV33 dc33 pm33 cd33 ct33 oc34 kV34 dc34 pm34 cd34 ct34 oc35 kV35 dc35 pm35 cd35 ct35 oc36 kV36 dc36 pm36 cd36 ct36 oc37 kV37 dc37 pm37 cd37 ct37 oc38 kV38 dc38 pm38 cd38 ct38 : Value} {t0 t1 t2 t3 : Tok}
    (aC : PySem.W.nsIn K mainGlobals "Ground" = some (some (.ref C)))
    (no_isinstance : PySem.W.nsIn K mainGlobals "isinstance" = some none)
    (no_int : PySem.W.nsIn K mainGlobals "int" = some none)
    (no_bool : PySem.W.nsIn K mainGlobals "bool" = some none)
    (no_tuple : PySem.W.nsIn K mainGlobals "tuple" = some none)
    (no_list : PySem.W.nsIn K mainGlobals "list" = some none)
    (no_str : PySem.W.nsIn K mainGlobals "str" = some none)
    (no_len : PySem.W.nsIn K mainGlobals "len" = some none)
    (no_all : PySem.W.nsIn K mainGlobals "all" = some none)
    (no_range : PySem.W.nsIn K mainGlobals "range" = some none)
    (no_enumerate : PySem.W.nsIn K mainGlobals "enumerate" = some none)
    (no_sorted : PySem.W.nsIn K mainGlobals "sorted" = some none)
    (no_sum : PySem.W.nsIn K mainGlobals "sum" = some none)
    (no_max : PySem.W.nsIn K mainGlobals "max" = some none)
    (no_min : PySem.W.nsIn K mainGlobals "min" = some none)
    (no_abs : PySem.W.nsIn K mainGlobals "abs" = some none)
    (no_zip : PySem.W.nsIn K mainGlobals "zip" = some none)
    (c_MOST_BLOCKS : PySem.W.nsIn K mainGlobals "MOST_BLOCKS" = some (some (.int 10 t0)))
    (c_MOST_GAIN : PySem.W.nsIn K mainGlobals "MOST_GAIN" = some (some (.int 9 t1)))
    (c_MOST_COST : PySem.W.nsIn K mainGlobals "MOST_COST" = some (some (.int 50 t2)))
    (c_MOST_PRICE : PySem.W.nsIn K mainGlobals "MOST_PRICE" = some (some (.int 1000000 t3)))
    (a0 : PySem.W.nsIn K mainGlobals "is_from" = some (some (.ref f0)))
    (l0 : K.lookup f0 = some ⟨oc0, od0, .func (PySem.W.fnOf "is_from" "is_from" (defArgs s_is_from) (defBody s_is_from) (defScope s_is_from) .none kV0 dc0 pm0 an0 cd0 ct0), sl0⟩) (c0 : PySem.W.codeIn K cd0 "is_from" = true) (k0 : PySem.W.keepIn K (.ref f0) = true)
    (a1 : PySem.W.nsIn K mainGlobals "rises" = some (some (.ref f1)))
    (l1 : K.lookup f1 = some ⟨oc1, od1, .func (PySem.W.fnOf "rises" "rises" (defArgs s_rises) (defBody s_rises) (defScope s_rises) .none kV1 dc1 pm1 an1 cd1 ct1), sl1⟩) (c1 : PySem.W.codeIn K cd1 "rises" = true) (k1 : PySem.W.keepIn K (.ref f1) = true)
    (a2 : PySem.W.nsIn K mainGlobals "is_cover" = some (some (.ref f2)))
    (l2 : K.lookup f2 = some ⟨oc2, od2, .func (PySem.W.fnOf "is_cover" "is_cover" (defArgs s_is_cover) (defBody s_is_cover) (defScope s_is_cover) .none kV2 dc2 pm2 an2 cd2 ct2), sl2⟩) (c2 : PySem.W.codeIn K cd2 "is_cover" = true) (k2 : PySem.W.keepIn K (.ref f2) = true)
    (a3 : PySem.W.findIn K (.ref C) "__init__" = some (some (.ref f3))) (i3 : PySem.W.isFn K (.ref f3) = true)
    (l3 : K.lookup f3 = some ⟨oc3, od3, .func (PySem.W.fnOf "__init__" "Ground.__init__" (defArgs s_ginit) (defBody s_ginit) (defScope s_ginit) .none kV3 dc3 pm3 an3 cd3 ct3), sl3⟩) (c3 : PySem.W.codeIn K cd3 "Ground.__init__" = true) (k3 : PySem.W.keepIn K (.ref f3) = true)
    (a4 : PySem.W.findIn K (.ref C) "__len__" = some (some (.ref f4))) (i4 : PySem.W.isFn K (.ref f4) = true)
    (l4 : K.lookup f4 = some ⟨oc4, od4, .func (PySem.W.fnOf "__len__" "Ground.__len__" (defArgs s_glen) (defBody s_glen) (defScope s_glen) .none kV4 dc4 pm4 an4 cd4 ct4), sl4⟩) (c4 : PySem.W.codeIn K cd4 "Ground.__len__" = true) (k4 : PySem.W.keepIn K (.ref f4) = true)
    (a5 : PySem.W.nsIn K mainGlobals "need_ground" = some (some (.ref f5)))
    (l5 : K.lookup f5 = some ⟨oc5, od5, .func (PySem.W.fnOf "need_ground" "need_ground" (defArgs s_need_ground) (defBody s_need_ground) (defScope s_need_ground) .none kV5 dc5 pm5 an5 cd5 ct5), sl5⟩) (c5 : PySem.W.codeIn K cd5 "need_ground" = true) (k5 : PySem.W.keepIn K (.ref f5) = true)
    (a6 : PySem.W.nsIn K mainGlobals "is_block" = some (some (.ref f6)))
    (l6 : K.lookup f6 = some ⟨oc6, od6, .func (PySem.W.fnOf "is_block" "is_block" (defArgs s_is_block) (defBody s_is_block) (defScope s_is_block) .none kV6 dc6 pm6 an6 cd6 ct6), sl6⟩) (c6 : PySem.W.codeIn K cd6 "is_block" = true) (k6 : PySem.W.keepIn K (.ref f6) = true)
    (a7 : PySem.W.nsIn K mainGlobals "is_lot" = some (some (.ref f7)))
    (l7 : K.lookup f7 = some ⟨oc7, od7, .func (PySem.W.fnOf "is_lot" "is_lot" (defArgs s_is_lot) (defBody s_is_lot) (defScope s_is_lot) .none kV7 dc7 pm7 an7 cd7 ct7), sl7⟩) (c7 : PySem.W.codeIn K cd7 "is_lot" = true) (k7 : PySem.W.keepIn K (.ref f7) = true)
    (a8 : PySem.W.nsIn K mainGlobals "need_lot" = some (some (.ref f8)))
    (l8 : K.lookup f8 = some ⟨oc8, od8, .func (PySem.W.fnOf "need_lot" "need_lot" (defArgs s_need_lot) (defBody s_need_lot) (defScope s_need_lot) .none kV8 dc8 pm8 an8 cd8 ct8), sl8⟩) (c8 : PySem.W.codeIn K cd8 "need_lot" = true) (k8 : PySem.W.keepIn K (.ref f8) = true)
    (a9 : PySem.W.nsIn K mainGlobals "sized" = some (some (.ref f9)))
    (l9 : K.lookup f9 = some ⟨oc9, od9, .func (PySem.W.fnOf "sized" "sized" (defArgs s_sized) (defBody s_sized) (defScope s_sized) .none kV9 dc9 pm9 an9 cd9 ct9), sl9⟩) (c9 : PySem.W.codeIn K cd9 "sized" = true) (k9 : PySem.W.keepIn K (.ref f9) = true)
    (a10 : PySem.W.nsIn K mainGlobals "pits_of" = some (some (.ref f10)))
    (l10 : K.lookup f10 = some ⟨oc10, od10, .func (PySem.W.fnOf "pits_of" "pits_of" (defArgs s_pits_of) (defBody s_pits_of) (defScope s_pits_of) .none kV10 dc10 pm10 an10 cd10 ct10), sl10⟩) (c10 : PySem.W.codeIn K cd10 "pits_of" = true) (k10 : PySem.W.keepIn K (.ref f10) = true)
    (a11 : PySem.W.nsIn K mainGlobals "sum_of" = some (some (.ref f11)))
    (l11 : K.lookup f11 = some ⟨oc11, od11, .func (PySem.W.fnOf "sum_of" "sum_of" (defArgs s_sum_of) (defBody s_sum_of) (defScope s_sum_of) .none kV11 dc11 pm11 an11 cd11 ct11), sl11⟩) (c11 : PySem.W.codeIn K cd11 "sum_of" = true) (k11 : PySem.W.keepIn K (.ref f11) = true)
    (a12 : PySem.W.nsIn K mainGlobals "greatest_of" = some (some (.ref f12)))
    (l12 : K.lookup f12 = some ⟨oc12, od12, .func (PySem.W.fnOf "greatest_of" "greatest_of" (defArgs s_greatest_of) (defBody s_greatest_of) (defScope s_greatest_of) .none kV12 dc12 pm12 an12 cd12 ct12), sl12⟩) (c12 : PySem.W.codeIn K cd12 "greatest_of" = true) (k12 : PySem.W.keepIn K (.ref f12) = true)
    (a13 : PySem.W.nsIn K mainGlobals "best_pits" = some (some (.ref f13)))
    (l13 : K.lookup f13 = some ⟨oc13, od13, .func (PySem.W.fnOf "best_pits" "best_pits" (defArgs s_best_pits) (defBody s_best_pits) (defScope s_best_pits) .none kV13 dc13 pm13 an13 cd13 ct13), sl13⟩) (c13 : PySem.W.codeIn K cd13 "best_pits" = true) (k13 : PySem.W.keepIn K (.ref f13) = true)
    (a14 : PySem.W.nsIn K mainGlobals "common" = some (some (.ref f14)))
    (l14 : K.lookup f14 = some ⟨oc14, od14, .func (PySem.W.fnOf "common" "common" (defArgs s_common) (defBody s_common) (defScope s_common) .none kV14 dc14 pm14 an14 cd14 ct14), sl14⟩) (c14 : PySem.W.codeIn K cd14 "common" = true) (k14 : PySem.W.keepIn K (.ref f14) = true)
    (a15 : PySem.W.nsIn K mainGlobals "lowest" = some (some (.ref f15)))
    (l15 : K.lookup f15 = some ⟨oc15, od15, .func (PySem.W.fnOf "lowest" "lowest" (defArgs s_lowest) (defBody s_lowest) (defScope s_lowest) .none kV15 dc15 pm15 an15 cd15 ct15), sl15⟩) (c15 : PySem.W.codeIn K cd15 "lowest" = true) (k15 : PySem.W.keepIn K (.ref f15) = true)
    (a16 : PySem.W.nsIn K mainGlobals "are_from" = some (some (.ref f16)))
    (l16 : K.lookup f16 = some ⟨oc16, od16, .func (PySem.W.fnOf "are_from" "are_from" (defArgs s_are_from) (defBody s_are_from) (defScope s_are_from) .none kV16 dc16 pm16 an16 cd16 ct16), sl16⟩) (c16 : PySem.W.codeIn K cd16 "are_from" = true) (k16 : PySem.W.keepIn K (.ref f16) = true)
    (a17 : PySem.W.nsIn K mainGlobals "need_both" = some (some (.ref f17)))
    (l17 : K.lookup f17 = some ⟨oc17, od17, .func (PySem.W.fnOf "need_both" "need_both" (defArgs s_need_both) (defBody s_need_both) (defScope s_need_both) .none kV17 dc17 pm17 an17 cd17 ct17), sl17⟩) (c17 : PySem.W.codeIn K cd17 "need_both" = true) (k17 : PySem.W.keepIn K (.ref f17) = true)
    (a18 : PySem.W.nsIn K mainGlobals "is_price" = some (some (.ref f18)))
    (l18 : K.lookup f18 = some ⟨oc18, od18, .func (PySem.W.fnOf "is_price" "is_price" (defArgs s_is_price) (defBody s_is_price) (defScope s_is_price) .none kV18 dc18 pm18 an18 cd18 ct18), sl18⟩) (c18 : PySem.W.codeIn K cd18 "is_price" = true) (k18 : PySem.W.keepIn K (.ref f18) = true)
    (a19 : PySem.W.nsIn K mainGlobals "need_price" = some (some (.ref f19)))
    (l19 : K.lookup f19 = some ⟨oc19, od19, .func (PySem.W.fnOf "need_price" "need_price" (defArgs s_need_price) (defBody s_need_price) (defScope s_need_price) .none kV19 dc19 pm19 an19 cd19 ct19), sl19⟩) (c19 : PySem.W.codeIn K cd19 "need_price" = true) (k19 : PySem.W.keepIn K (.ref f19) = true)
    (a20 : PySem.W.nsIn K mainGlobals "worths_by" = some (some (.ref f20)))
    (l20 : K.lookup f20 = some ⟨oc20, od20, .func (PySem.W.fnOf "worths_by" "worths_by" (defArgs s_worths_by) (defBody s_worths_by) (defScope s_worths_by) .none kV20 dc20 pm20 an20 cd20 ct20), sl20⟩) (c20 : PySem.W.codeIn K cd20 "worths_by" = true) (k20 : PySem.W.keepIn K (.ref f20) = true)
    (a21 : PySem.W.nsIn K mainGlobals "worth_at" = some (some (.ref f21)))
    (l21 : K.lookup f21 = some ⟨oc21, od21, .func (PySem.W.fnOf "worth_at" "worth_at" (defArgs s_worth_at) (defBody s_worth_at) (defScope s_worth_at) .none kV21 dc21 pm21 an21 cd21 ct21), sl21⟩) (c21 : PySem.W.codeIn K cd21 "worth_at" = true) (k21 : PySem.W.keepIn K (.ref f21) = true)
    (a22 : PySem.W.nsIn K mainGlobals "best_by" = some (some (.ref f22)))
    (l22 : K.lookup f22 = some ⟨oc22, od22, .func (PySem.W.fnOf "best_by" "best_by" (defArgs s_best_by) (defBody s_best_by) (defScope s_best_by) .none kV22 dc22 pm22 an22 cd22 ct22), sl22⟩) (c22 : PySem.W.codeIn K cd22 "best_by" = true) (k22 : PySem.W.keepIn K (.ref f22) = true)
    (a23 : PySem.W.nsIn K mainGlobals "best_at" = some (some (.ref f23)))
    (l23 : K.lookup f23 = some ⟨oc23, od23, .func (PySem.W.fnOf "best_at" "best_at" (defArgs s_best_at) (defBody s_best_at) (defScope s_best_at) .none kV23 dc23 pm23 an23 cd23 ct23), sl23⟩) (c23 : PySem.W.codeIn K cd23 "best_at" = true) (k23 : PySem.W.keepIn K (.ref f23) = true)
    (a24 : PySem.W.nsIn K mainGlobals "_law_taken" = some (some (.ref f24)))
    (l24 : K.lookup f24 = some ⟨oc24, od24, .func (PySem.W.fnOf "_law_taken" "_law_taken" (defArgs s_l_taken) (defBody s_l_taken) (defScope s_l_taken) .none kV24 dc24 pm24 an24 cd24 ct24), sl24⟩) (c24 : PySem.W.codeIn K cd24 "_law_taken" = true) (k24 : PySem.W.keepIn K (.ref f24) = true)
    (a25 : PySem.W.nsIn K mainGlobals "_law_covers" = some (some (.ref f25)))
    (l25 : K.lookup f25 = some ⟨oc25, od25, .func (PySem.W.fnOf "_law_covers" "_law_covers" (defArgs s_l_covers) (defBody s_l_covers) (defScope s_l_covers) .none kV25 dc25 pm25 an25 cd25 ct25), sl25⟩) (c25 : PySem.W.codeIn K cd25 "_law_covers" = true) (k25 : PySem.W.keepIn K (.ref f25) = true)
    (a26 : PySem.W.nsIn K mainGlobals "_law_numbers" = some (some (.ref f26)))
    (l26 : K.lookup f26 = some ⟨oc26, od26, .func (PySem.W.fnOf "_law_numbers" "_law_numbers" (defArgs s_l_numbers) (defBody s_l_numbers) (defScope s_l_numbers) .none kV26 dc26 pm26 an26 cd26 ct26), sl26⟩) (c26 : PySem.W.codeIn K cd26 "_law_numbers" = true) (k26 : PySem.W.keepIn K (.ref f26) = true)
    (a27 : PySem.W.nsIn K mainGlobals "_law_market" = some (some (.ref f27)))
    (l27 : K.lookup f27 = some ⟨oc27, od27, .func (PySem.W.fnOf "_law_market" "_law_market" (defArgs s_l_market) (defBody s_l_market) (defScope s_l_market) .none kV27 dc27 pm27 an27 cd27 ct27), sl27⟩) (c27 : PySem.W.codeIn K cd27 "_law_market" = true) (k27 : PySem.W.keepIn K (.ref f27) = true)
    (a28 : PySem.W.nsIn K mainGlobals "_law_lots" = some (some (.ref f28)))
    (l28 : K.lookup f28 = some ⟨oc28, od28, .func (PySem.W.fnOf "_law_lots" "_law_lots" (defArgs s_l_lots) (defBody s_l_lots) (defScope s_l_lots) .none kV28 dc28 pm28 an28 cd28 ct28), sl28⟩) (c28 : PySem.W.codeIn K cd28 "_law_lots" = true) (k28 : PySem.W.keepIn K (.ref f28) = true)
    (a29 : PySem.W.nsIn K mainGlobals "_law_low" = some (some (.ref f29)))
    (l29 : K.lookup f29 = some ⟨oc29, od29, .func (PySem.W.fnOf "_law_low" "_law_low" (defArgs s_l_low) (defBody s_l_low) (defScope s_l_low) .none kV29 dc29 pm29 an29 cd29 ct29), sl29⟩) (c29 : PySem.W.codeIn K cd29 "_law_low" = true) (k29 : PySem.W.keepIn K (.ref f29) = true)
    (a30 : PySem.W.nsIn K mainGlobals "_law_price" = some (some (.ref f30)))
    (l30 : K.lookup f30 = some ⟨oc30, od30, .func (PySem.W.fnOf "_law_price" "_law_price" (defArgs s_l_price) (defBody s_l_price) (defScope s_l_price) .none kV30 dc30 pm30 an30 cd30 ct30), sl30⟩) (c30 : PySem.W.codeIn K cd30 "_law_price" = true) (k30 : PySem.W.keepIn K (.ref f30) = true)
    (a31 : PySem.W.nsIn K mainGlobals "_law_at" = some (some (.ref f31)))
    (l31 : K.lookup f31 = some ⟨oc31, od31, .func (PySem.W.fnOf "_law_at" "_law_at" (defArgs s_l_at) (defBody s_l_at) (defScope s_l_at) .none kV31 dc31 pm31 an31 cd31 ct31), sl31⟩) (c31 : PySem.W.codeIn K cd31 "_law_at" = true) (k31 : PySem.W.keepIn K (.ref f31) = true)
    (a32 : PySem.W.nsIn K mainGlobals "_law_is_pit" = some (some (.ref f32)))
    (l32 : K.lookup f32 = some ⟨oc32, od32, .func (PySem.W.fnOf "_law_is_pit" "_law_is_pit" (defArgs s_l_is_pit) (defBody s_l_is_pit) (defScope s_l_is_pit) .none kV32 dc32 pm32 an32 cd32 ct32), sl32⟩) (c32 : PySem.W.codeIn K cd32 "_law_is_pit" = true) (k32 : PySem.W.keepIn K (.ref f32) = true)
    (a33 : PySem.W.nsIn K mainGlobals "_law_pits" = some (some (.ref f33)))
    (l33 : K.lookup f33 = some ⟨oc33, od33, .func (PySem.W.fnOf "_law_pits" "_law_pits" (defArgs s_l_pits) (defBody s_l_pits) (defScope s_l_pits) .none kV33 dc33 pm33 an33 cd33 ct33), sl33⟩) (c33 : PySem.W.codeIn K cd33 "_law_pits" = true) (k33 : PySem.W.keepIn K (.ref f33) = true)
    (a34 : PySem.W.nsIn K mainGlobals "_law_sum" = some (some (.ref f34)))
    (l34 : K.lookup f34 = some ⟨oc34, od34, .func (PySem.W.fnOf "_law_sum" "_law_sum" (defArgs s_l_sum) (defBody s_l_sum) (defScope s_l_sum) .none kV34 dc34 pm34 an34 cd34 ct34), sl34⟩) (c34 : PySem.W.codeIn K cd34 "_law_sum" = true) (k34 : PySem.W.keepIn K (.ref f34) = true)
    (a35 : PySem.W.nsIn K mainGlobals "_law_best" = some (some (.ref f35)))
    (l35 : K.lookup f35 = some ⟨oc35, od35, .func (PySem.W.fnOf "_law_best" "_law_best" (defArgs s_l_best) (defBody s_l_best) (defScope s_l_best) .none kV35 dc35 pm35 an35 cd35 ct35), sl35⟩) (c35 : PySem.W.codeIn K cd35 "_law_best" = true) (k35 : PySem.W.keepIn K (.ref f35) = true)
    (a36 : PySem.W.nsIn K mainGlobals "_law_alike" = some (some (.ref f36)))
    (l36 : K.lookup f36 = some ⟨oc36, od36, .func (PySem.W.fnOf "_law_alike" "_law_alike" (defArgs s_l_alike) (defBody s_l_alike) (defScope s_l_alike) .none kV36 dc36 pm36 an36 cd36 ct36), sl36⟩) (c36 : PySem.W.codeIn K cd36 "_law_alike" = true) (k36 : PySem.W.keepIn K (.ref f36) = true)
    (a37 : PySem.W.nsIn K mainGlobals "_law_pick" = some (some (.ref f37)))
    (l37 : K.lookup f37 = some ⟨oc37, od37, .func (PySem.W.fnOf "_law_pick" "_law_pick" (defArgs s_l_pick) (defBody s_l_pick) (defScope s_l_pick) .none kV37 dc37 pm37 an37 cd37 ct37), sl37⟩) (c37 : PySem.W.codeIn K cd37 "_law_pick" = true) (k37 : PySem.W.keepIn K (.ref f37) = true)
    (a38 : PySem.W.nsIn K mainGlobals "law" = some (some (.ref f38)))
    (l38 : K.lookup f38 = some ⟨oc38, od38, .func (PySem.W.fnOf "law" "law" (defArgs s_l_law) (defBody s_l_law) (defScope s_l_law) .none kV38 dc38 pm38 an38 cd38 ct38), sl38⟩) (c38 : PySem.W.codeIn K cd38 "law" = true) (k38 : PySem.W.keepIn K (.ref f38) = true)
    (pg : PySem.W.plainGet K C Str.empty = true) (hd : PySem.W.hasDictIn K C = true) (po : PySem.W.plainOver K C = true) (sa : PySem.W.findIn K (.ref C) "__setattr__" = some (some (.builtin "object.__setattr__"))) (mk : PySem.W.makesIn K C = true) (kc : PySem.W.keepIn K (.ref C) = true)
    (nT : PySem.W.findIn K (.ref C) "table" = some none) (cA : PySem.W.findIn K (.ref C) "__class__" = some (some (.builtin "object.__class__"))) (cN : PySem.W.specialIn K (.builtin "object.__class__") "__get__" = some (some (.builtin "getset_descriptor.__get__")))
    (cT : PySem.W.takesIn K (.builtin "object.__class__") = some true) (cM : PySem.W.mroIn K C (.type "object") = some true) :
    ∃ e : Lay, e.a_l_law = fa ∧ Txt K mg e ∧ ∀ (s : Shared) (v : Value), BindsTo s e.d_l_law ⟨[v], []⟩ [("_law_script", v)] := by
  have e := hfa.symm.trans (PySem.W.mg_of X G a38)
  cases e
  have F0 := fun_mk (st := s_is_from) l0 c0 k0
  have b0 := F0.binds (ps := p_is_from) fun _ _ _ _ _ _ us hl => match us, hl with | [_, _, _], _ => rfl
  have F1 := fun_mk (st := s_rises) l1 c1 k1
  have b1 := F1.binds (ps := p_rises) fun _ _ _ _ _ _ us hl => match us, hl with | [_], _ => rfl
  have F2 := fun_mk (st := s_is_cover) l2 c2 k2
  have b2 := F2.binds (ps := p_is_cover) fun _ _ _ _ _ _ us hl => match us, hl with | [_, _], _ => rfl
  have F3 := fun_mk (st := s_ginit) l3 c3 k3
  have b3 := F3.binds (ps := p_ginit) fun _ _ _ _ _ _ us hl => match us, hl with | [_, _], _ => rfl
  have F4 := fun_mk (st := s_glen) l4 c4 k4
  have b4 := F4.binds (ps := p_glen) fun _ _ _ _ _ _ us hl => match us, hl with | [_], _ => rfl
  have F5 := fun_mk (st := s_need_ground) l5 c5 k5
  have b5 := F5.binds (ps := p_need_ground) fun _ _ _ _ _ _ us hl => match us, hl with | [_], _ => rfl
  have F6 := fun_mk (st := s_is_block) l6 c6 k6
  have b6 := F6.binds (ps := p_is_block) fun _ _ _ _ _ _ us hl => match us, hl with | [_, _], _ => rfl
  have F7 := fun_mk (st := s_is_lot) l7 c7 k7
  have b7 := F7.binds (ps := p_is_lot) fun _ _ _ _ _ _ us hl => match us, hl with | [_, _], _ => rfl
  have F8 := fun_mk (st := s_need_lot) l8 c8 k8
  have b8 := F8.binds (ps := p_need_lot) fun _ _ _ _ _ _ us hl => match us, hl with | [_, _], _ => rfl
  have F9 := fun_mk (st := s_sized) l9 c9 k9
  have b9 := F9.binds (ps := p_sized) fun _ _ _ _ _ _ us hl => match us, hl with | [_], _ => rfl
  have F10 := fun_mk (st := s_pits_of) l10 c10 k10
  have b10 := F10.binds (ps := p_pits_of) fun _ _ _ _ _ _ us hl => match us, hl with | [_], _ => rfl
  have F11 := fun_mk (st := s_sum_of) l11 c11 k11
  have b11 := F11.binds (ps := p_sum_of) fun _ _ _ _ _ _ us hl => match us, hl with | [_, _], _ => rfl
  have F12 := fun_mk (st := s_greatest_of) l12 c12 k12
  have b12 := F12.binds (ps := p_greatest_of) fun _ _ _ _ _ _ us hl => match us, hl with | [_, _], _ => rfl
  have F13 := fun_mk (st := s_best_pits) l13 c13 k13
  have b13 := F13.binds (ps := p_best_pits) fun _ _ _ _ _ _ us hl => match us, hl with | [_, _], _ => rfl
  have F14 := fun_mk (st := s_common) l14 c14 k14
  have b14 := F14.binds (ps := p_common) fun _ _ _ _ _ _ us hl => match us, hl with | [_, _], _ => rfl
  have F15 := fun_mk (st := s_lowest) l15 c15 k15
  have b15 := F15.binds (ps := p_lowest) fun _ _ _ _ _ _ us hl => match us, hl with | [_, _], _ => rfl
  have F16 := fun_mk (st := s_are_from) l16 c16 k16
  have b16 := F16.binds (ps := p_are_from) fun _ _ _ _ _ _ us hl => match us, hl with | [_, _, _], _ => rfl
  have F17 := fun_mk (st := s_need_both) l17 c17 k17
  have b17 := F17.binds (ps := p_need_both) fun _ _ _ _ _ _ us hl => match us, hl with | [_, _, _], _ => rfl
  have F18 := fun_mk (st := s_is_price) l18 c18 k18
  have b18 := F18.binds (ps := p_is_price) fun _ _ _ _ _ _ us hl => match us, hl with | [_], _ => rfl
  have F19 := fun_mk (st := s_need_price) l19 c19 k19
  have b19 := F19.binds (ps := p_need_price) fun _ _ _ _ _ _ us hl => match us, hl with | [_], _ => rfl
  have F20 := fun_mk (st := s_worths_by) l20 c20 k20
  have b20 := F20.binds (ps := p_worths_by) fun _ _ _ _ _ _ us hl => match us, hl with | [_, _, _], _ => rfl
  have F21 := fun_mk (st := s_worth_at) l21 c21 k21
  have b21 := F21.binds (ps := p_worth_at) fun _ _ _ _ _ _ us hl => match us, hl with | [_, _, _, _, _], _ => rfl
  have F22 := fun_mk (st := s_best_by) l22 c22 k22
  have b22 := F22.binds (ps := p_best_by) fun _ _ _ _ _ _ us hl => match us, hl with | [_, _, _, _], _ => rfl
  have F23 := fun_mk (st := s_best_at) l23 c23 k23
  have b23 := F23.binds (ps := p_best_at) fun _ _ _ _ _ _ us hl => match us, hl with | [_, _, _, _], _ => rfl
  have F24 := fun_mk (st := s_l_taken) l24 c24 k24
  have b24 := F24.binds (ps := p_l_taken) fun _ _ _ _ _ _ us hl => match us, hl with | [_, _], _ => rfl
  have F25 := fun_mk (st := s_l_covers) l25 c25 k25
  have b25 := F25.binds (ps := p_l_covers) fun _ _ _ _ _ _ us hl => match us, hl with | [_, _], _ => rfl
  have F26 := fun_mk (st := s_l_numbers) l26 c26 k26
  have b26 := F26.binds (ps := p_l_numbers) fun _ _ _ _ _ _ us hl => match us, hl with | [_, _, _], _ => rfl
  have F27 := fun_mk (st := s_l_market) l27 c27 k27
  have b27 := F27.binds (ps := p_l_market) fun _ _ _ _ _ _ us hl => match us, hl with | [_, _], _ => rfl
  have F28 := fun_mk (st := s_l_lots) l28 c28 k28
  have b28 := F28.binds (ps := p_l_lots) fun _ _ _ _ _ _ us hl => match us, hl with | [_], _ => rfl
  have F29 := fun_mk (st := s_l_low) l29 c29 k29
  have b29 := F29.binds (ps := p_l_low) fun _ _ _ _ _ _ us hl => match us, hl with | [_, _], _ => rfl
  have F30 := fun_mk (st := s_l_price) l30 c30 k30
  have b30 := F30.binds (ps := p_l_price) fun _ _ _ _ _ _ us hl => match us, hl with | [_], _ => rfl
  have F31 := fun_mk (st := s_l_at) l31 c31 k31
  have b31 := F31.binds (ps := p_l_at) fun _ _ _ _ _ _ us hl => match us, hl with | [_, _, _], _ => rfl
  have F32 := fun_mk (st := s_l_is_pit) l32 c32 k32
  have b32 := F32.binds (ps := p_l_is_pit) fun _ _ _ _ _ _ us hl => match us, hl with | [_, _], _ => rfl
  have F33 := fun_mk (st := s_l_pits) l33 c33 k33
  have b33 := F33.binds (ps := p_l_pits) fun _ _ _ _ _ _ us hl => match us, hl with | [_], _ => rfl
  have F34 := fun_mk (st := s_l_sum) l34 c34 k34
  have b34 := F34.binds (ps := p_l_sum) fun _ _ _ _ _ _ us hl => match us, hl with | [_, _], _ => rfl
  have F35 := fun_mk (st := s_l_best) l35 c35 k35
  have b35 := F35.binds (ps := p_l_best) fun _ _ _ _ _ _ us hl => match us, hl with | [_, _], _ => rfl
  have F36 := fun_mk (st := s_l_alike) l36 c36 k36
  have b36 := F36.binds (ps := p_l_alike) fun _ _ _ _ _ _ us hl => match us, hl with | [_, _], _ => rfl
  have F37 := fun_mk (st := s_l_pick) l37 c37 k37
  have b37 := F37.binds (ps := p_l_pick) fun _ _ _ _ _ _ us hl => match us, hl with | [_, _], _ => rfl
  have F38 := fun_mk (st := s_l_law) l38 c38 k38
  have b38 := F38.binds (ps := p_l_law) fun _ _ _ _ _ _ us hl => match us, hl with | [_], _ => rfl
  refine ⟨⟨C, f0, _, f1, _, f2, _, f3, _, f4, _, f5, _, f6, _, f7, _, f8, _, f9, _, f10, _, f11, _, f12, _, f13, _, f14, _, f15, _, f16, _, f17, _, f18, _, f19, _, f20, _, f21, _, f22, _, f23, _, f24, _, f25, _, f26, _, f27, _, f28, _, f29, _, f30, _, f31, _, f32, _, f33, _, f34, _, f35, _, f36, _, f37, _, fa, _⟩, rfl, ⟨PySem.W.mg_none_of X G no_isinstance, PySem.W.mg_none_of X G no_int, PySem.W.mg_none_of X G no_bool, PySem.W.mg_none_of X G no_tuple, PySem.W.mg_none_of X G no_list, PySem.W.mg_none_of X G no_str, PySem.W.mg_none_of X G no_len, PySem.W.mg_none_of X G no_all, PySem.W.mg_none_of X G no_range, PySem.W.mg_none_of X G no_enumerate, PySem.W.mg_none_of X G no_sorted, PySem.W.mg_none_of X G no_sum, PySem.W.mg_none_of X G no_max, PySem.W.mg_none_of X G no_min, PySem.W.mg_none_of X G no_abs, PySem.W.mg_none_of X G no_zip, ⟨_, PySem.W.mg_of X G c_MOST_BLOCKS⟩, ⟨_, PySem.W.mg_of X G c_MOST_GAIN⟩, ⟨_, PySem.W.mg_of X G c_MOST_COST⟩, ⟨_, PySem.W.mg_of X G c_MOST_PRICE⟩,
    ⟨F0, b0, PySem.W.mg_of X G a0⟩,
    ⟨F1, b1, PySem.W.mg_of X G a1⟩,
    ⟨F2, b2, PySem.W.mg_of X G a2⟩,
    F3, b3,
    F4, b4,
    ⟨F5, b5, PySem.W.mg_of X G a5⟩,
    ⟨F6, b6, PySem.W.mg_of X G a6⟩,
    ⟨F7, b7, PySem.W.mg_of X G a7⟩,
    ⟨F8, b8, PySem.W.mg_of X G a8⟩,
    ⟨F9, b9, PySem.W.mg_of X G a9⟩,
    ⟨F10, b10, PySem.W.mg_of X G a10⟩,
    ⟨F11, b11, PySem.W.mg_of X G a11⟩,
    ⟨F12, b12, PySem.W.mg_of X G a12⟩,
    ⟨F13, b13, PySem.W.mg_of X G a13⟩,
    ⟨F14, b14, PySem.W.mg_of X G a14⟩,
    ⟨F15, b15, PySem.W.mg_of X G a15⟩,
    ⟨F16, b16, PySem.W.mg_of X G a16⟩,
    ⟨F17, b17, PySem.W.mg_of X G a17⟩,
    ⟨F18, b18, PySem.W.mg_of X G a18⟩,
    ⟨F19, b19, PySem.W.mg_of X G a19⟩,
    ⟨F20, b20, PySem.W.mg_of X G a20⟩,
    ⟨F21, b21, PySem.W.mg_of X G a21⟩,
    ⟨F22, b22, PySem.W.mg_of X G a22⟩,
    ⟨F23, b23, PySem.W.mg_of X G a23⟩,
    ⟨F24, b24, PySem.W.mg_of X G a24⟩,
    ⟨F25, b25, PySem.W.mg_of X G a25⟩,
    ⟨F26, b26, PySem.W.mg_of X G a26⟩,
    ⟨F27, b27, PySem.W.mg_of X G a27⟩,
    ⟨F28, b28, PySem.W.mg_of X G a28⟩,
    ⟨F29, b29, PySem.W.mg_of X G a29⟩,
    ⟨F30, b30, PySem.W.mg_of X G a30⟩,
    ⟨F31, b31, PySem.W.mg_of X G a31⟩,
    ⟨F32, b32, PySem.W.mg_of X G a32⟩,
    ⟨F33, b33, PySem.W.mg_of X G a33⟩,
    ⟨F34, b34, PySem.W.mg_of X G a34⟩,
    ⟨F35, b35, PySem.W.mg_of X G a35⟩,
    ⟨F36, b36, PySem.W.mg_of X G a36⟩,
    ⟨F37, b37, PySem.W.mg_of X G a37⟩,
    ⟨F38, b38, PySem.W.mg_of X G a38⟩,
    ⟨pg, hd, po, sa⟩, ⟨mk, a3, i3, kc⟩, PySem.W.mg_of X G aC, nT, a4, i4, k4, cA, cN, cT, cM⟩, fun s v => .of_eq rfl⟩
end Pk
open PySem PySem.W PyProof.Rows in
set_option maxRecDepth 100000 in
set_option maxHeartbeats 0 in
theorem PySem.Challenge.cw_pitlots_k16_whole_pits_at_prices_holds : PySem.Challenge.rw_pitlots_k16_whole_pits_at_prices.Holds := by
  w_on; o_law; k_head; (case hw => w_witness2)
  k_fill
  refine Pk.walk (l := PySem.Challenge.rw_pitlots_k16_whole_pits_at_prices) rfl rfl (fun w h Y => PySem.W.kIn_of Y) ?F
  case F =>
    intro w mg fa h KX G hmg
    refine' Pk.all_mk KX G hmg ?aC ?no_isinstance ?no_int ?no_bool ?no_tuple ?no_list ?no_str ?no_len ?no_all ?no_range ?no_enumerate ?no_sorted ?no_sum ?no_max ?no_min ?no_abs ?no_zip ?c_MOST_BLOCKS ?c_MOST_GAIN ?c_MOST_COST ?c_MOST_PRICE ?a0 ?l0 ?c0 ?k0 ?a1 ?l1 ?c1 ?k1 ?a2 ?l2 ?c2 ?k2 ?a3 ?i3 ?l3 ?c3 ?k3 ?a4 ?i4 ?l4 ?c4 ?k4 ?a5 ?l5 ?c5 ?k5 ?a6 ?l6 ?c6 ?k6 ?a7 ?l7 ?c7 ?k7 ?a8 ?l8 ?c8 ?k8 ?a9 ?l9 ?c9 ?k9 ?a10 ?l10 ?c10 ?k10 ?a11 ?l11 ?c11 ?k11 ?a12 ?l12 ?c12 ?k12 ?a13 ?l13 ?c13 ?k13 ?a14 ?l14 ?c14 ?k14 ?a15 ?l15 ?c15 ?k15 ?a16 ?l16 ?c16 ?k16 ?a17 ?l17 ?c17 ?k17 ?a18 ?l18 ?c18 ?k18 ?a19 ?l19 ?c19 ?k19 ?a20 ?l20 ?c20 ?k20 ?a21 ?l21 ?c21 ?k21 ?a22 ?l22 ?c22 ?k22 ?a23 ?l23 ?c23 ?k23 ?a24 ?l24 ?c24 ?k24 ?a25 ?l25 ?c25 ?k25 ?a26 ?l26 ?c26 ?k26 ?a27 ?l27 ?c27 ?k27 ?a28 ?l28 ?c28 ?k28 ?a29 ?l29 ?c29 ?k29 ?a30 ?l30 ?c30 ?k30 ?a31 ?l31 ?c31 ?k31 ?a32 ?l32 ?c32 ?k32 ?a33 ?l33 ?c33 ?k33 ?a34 ?l34 ?c34 ?k34 ?a35 ?l35 ?c35 ?k35 ?a36 ?l36 ?c36 ?k36 ?a37 ?l37 ?c37 ?k37 ?a38 ?l38 ?c38 ?k38 ?pg ?hd ?po ?sa ?mk ?kc ?nT ?cA ?cN ?cT ?cM
    (case aC => k_is)
    (case no_isinstance => k_is)
    (case no_int => k_is)
    (case no_bool => k_is)
    (case no_tuple => k_is)
    (case no_list => k_is)
    (case no_str => k_is)
    (case no_len => k_is)
    (case no_all => k_is)
    (case no_range => k_is)
    (case no_enumerate => k_is)
    (case no_sorted => k_is)
    (case no_sum => k_is)
    (case no_max => k_is)
    (case no_min => k_is)
    (case no_abs => k_is)
    (case no_zip => k_is)
    (case c_MOST_BLOCKS => k_is)
    (case c_MOST_GAIN => k_is)
    (case c_MOST_COST => k_is)
    (case c_MOST_PRICE => k_is)
    (case a0 => k_is)
    (case l0 => k_is)
    (case c0 => k_is)
    (case k0 => k_is)
    (case a1 => k_is)
    (case l1 => k_is)
    (case c1 => k_is)
    (case k1 => k_is)
    (case a2 => k_is)
    (case l2 => k_is)
    (case c2 => k_is)
    (case k2 => k_is)
    (case a3 => k_is)
    (case i3 => k_is)
    (case l3 => k_is)
    (case c3 => k_is)
    (case k3 => k_is)
    (case a4 => k_is)
    (case i4 => k_is)
    (case l4 => k_is)
    (case c4 => k_is)
    (case k4 => k_is)
    (case a5 => k_is)
    (case l5 => k_is)
    (case c5 => k_is)
    (case k5 => k_is)
    (case a6 => k_is)
    (case l6 => k_is)
    (case c6 => k_is)
    (case k6 => k_is)
    (case a7 => k_is)
    (case l7 => k_is)
    (case c7 => k_is)
    (case k7 => k_is)
    (case a8 => k_is)
    (case l8 => k_is)
    (case c8 => k_is)
    (case k8 => k_is)
    (case a9 => k_is)
    (case l9 => k_is)
    (case c9 => k_is)
    (case k9 => k_is)
    (case a10 => k_is)
    (case l10 => k_is)
    (case c10 => k_is)
    (case k10 => k_is)
    (case a11 => k_is)
    (case l11 => k_is)
    (case c11 => k_is)
    (case k11 => k_is)
    (case a12 => k_is)
    (case l12 => k_is)
    (case c12 => k_is)
    (case k12 => k_is)
    (case a13 => k_is)
    (case l13 => k_is)
    (case c13 => k_is)
    (case k13 => k_is)
    (case a14 => k_is)
    (case l14 => k_is)
    (case c14 => k_is)
    (case k14 => k_is)
    (case a15 => k_is)
    (case l15 => k_is)
    (case c15 => k_is)
    (case k15 => k_is)
    (case a16 => k_is)
    (case l16 => k_is)
    (case c16 => k_is)
    (case k16 => k_is)
    (case a17 => k_is)
    (case l17 => k_is)
    (case c17 => k_is)
    (case k17 => k_is)
    (case a18 => k_is)
    (case l18 => k_is)
    (case c18 => k_is)
    (case k18 => k_is)
    (case a19 => k_is)
    (case l19 => k_is)
    (case c19 => k_is)
    (case k19 => k_is)
    (case a20 => k_is)
    (case l20 => k_is)
    (case c20 => k_is)
    (case k20 => k_is)
    (case a21 => k_is)
    (case l21 => k_is)
    (case c21 => k_is)
    (case k21 => k_is)
    (case a22 => k_is)
    (case l22 => k_is)
    (case c22 => k_is)
    (case k22 => k_is)
    (case a23 => k_is)
    (case l23 => k_is)
    (case c23 => k_is)
    (case k23 => k_is)
    (case a24 => k_is)
    (case l24 => k_is)
    (case c24 => k_is)
    (case k24 => k_is)
    (case a25 => k_is)
    (case l25 => k_is)
    (case c25 => k_is)
    (case k25 => k_is)
    (case a26 => k_is)
    (case l26 => k_is)
    (case c26 => k_is)
    (case k26 => k_is)
    (case a27 => k_is)
    (case l27 => k_is)
    (case c27 => k_is)
    (case k27 => k_is)
    (case a28 => k_is)
    (case l28 => k_is)
    (case c28 => k_is)
    (case k28 => k_is)
    (case a29 => k_is)
    (case l29 => k_is)
    (case c29 => k_is)
    (case k29 => k_is)
    (case a30 => k_is)
    (case l30 => k_is)
    (case c30 => k_is)
    (case k30 => k_is)
    (case a31 => k_is)
    (case l31 => k_is)
    (case c31 => k_is)
    (case k31 => k_is)
    (case a32 => k_is)
    (case l32 => k_is)
    (case c32 => k_is)
    (case k32 => k_is)
    (case a33 => k_is)
    (case l33 => k_is)
    (case c33 => k_is)
    (case k33 => k_is)
    (case a34 => k_is)
    (case l34 => k_is)
    (case c34 => k_is)
    (case k34 => k_is)
    (case a35 => k_is)
    (case l35 => k_is)
    (case c35 => k_is)
    (case k35 => k_is)
    (case a36 => k_is)
    (case l36 => k_is)
    (case c36 => k_is)
    (case k36 => k_is)
    (case a37 => k_is)
    (case l37 => k_is)
    (case c37 => k_is)
    (case k37 => k_is)
    (case a38 => k_is)
    (case l38 => k_is)
    (case c38 => k_is)
    (case k38 => k_is)
    (case pg => k_is)
    (case hd => k_is)
    (case po => k_is)
    (case sa => k_is)
    (case mk => k_is)
    (case kc => k_is)
    (case nT => k_is)
    (case cA => k_is)
    (case cN => k_is)
    (case cT => k_is)
    (case cM => k_is)
